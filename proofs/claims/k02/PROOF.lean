import PyProof.Rows.All
import Wide.All
import OpenK.AllK
import Wide.FinOn
import HandS.ForMost
import HandS.Exc
import HandS.TryOnly
import HandS.ExcOwn
import HandS.WordsExc
import HandS.Flow
import HandS.Walk
import HandS.ExcCtx
import HandS.TupMul
import HandS.TupAny
import HandS.Style
import HandS.IsInst
import HandS.Zip
import HandS.HotCalls
import HandS.ExcIs
import HandS.Lambda
import HandS.HeadHook4
import HandS.HeadWalk
import HandS.Head2
import PySem.Challenge.RW_anytallies_k02_whole_what_is_shown
set_option Elab.async false
set_option linter.all false
set_option maxRecDepth 100000
namespace Fw
open PySem PySem.Spec L2

/-! ### heaps: what grows -/
/-- no table -/
def NT (o : HO) : Prop := ∀ ps, o ≠ .tbl ps
/-- nothing stands there, or a table -/
def Fre (H : Hp) (a : Addr) : Prop := ∀ o, H a = some o → ¬ NT o
theorem Fre.of_none {H : Hp} {a : Addr} (h : H a = none) : Fre H a := fun o e => by rw [h] at e; cases e
abbrev AS := Addr → Prop
/-- all but what is in M stays; nothing goes -/
def Ext (M : AS) (H H' : Hp) : Prop := ∀ a o, H a = some o → NT o → (¬ M a → H' a = some o) ∧ ∃ o', H' a = some o' ∧ NT o'
theorem Ext.refl {M : AS} (H : Hp) : Ext M H H := fun a o h n => ⟨fun _ => h, o, h, n⟩
theorem Ext.fre {M : AS} {H H' : Hp} (e : Ext M H H') {a : Addr} (h : Fre H' a) : Fre H a := fun o q n => by
  obtain ⟨o', h', n'⟩ := (e a o q n).2
  exact h o' h' n'
theorem Ext.mono {M M' : AS} {H H' : Hp} (e : Ext M H H') (s : ∀ a, M a → M' a) : Ext M' H H' := fun a o h n => ⟨fun k => (e a o h n).1 fun z => k (s a z), (e a o h n).2⟩
theorem Ext.trans {M M1 : AS} {H H1 H2 : Hp} (e : Ext M H H1) (e' : Ext M1 H1 H2) (s : ∀ a, M1 a → M a ∨ Fre H a) : Ext M H H2 := fun a o h n => by
  obtain ⟨k, o1, h1, n1⟩ := e a o h n
  obtain ⟨k', o2, h2, n2⟩ := e' a o1 h1 n1
  refine ⟨fun hm => ?_, o2, h2, n2⟩
  have q := k hm
  rw [h1] at q; cases q
  refine k' fun z => ?_
  rcases s a z with z | z
  · exact hm z
  · exact z o h n
def Same (H H' : Hp) : Prop := ∀ a o, H a = some o → H' a = some o
theorem Same.refl (H : Hp) : Same H H := fun _ _ h => h
theorem Same.trans {H H1 H2 : Hp} (a : Same H H1) (b : Same H1 H2) : Same H H2 := fun c o h => b c o (a c o h)
theorem Same.new {H : Hp} {p : Addr} {o : HO} (h : H p = none) : Same H (upd H p o) := fun a u e => by
  rw [upd_ne (ne_of_none e h)]; exact e
theorem Same.ext {M : AS} {H H' : Hp} (s : Same H H') : Ext M H H' := fun a o h n => ⟨fun _ => s a o h, o, s a o h, n⟩
theorem Same.free {H H' : Hp} (e : Same H H') {l : Addr} (h : H' l = none) : H l = none := by
  cases q : H l with
  | none => rfl
  | some o => rw [e l o q] at h; cases h

/-! ### data -/
abbrev D := PyData
/-- a list that may be read, none of M -/
def FL (K : PySem.W.Frag) (H : Hp) (M : AS) (a : Addr) (xs : List V) : Prop :=
  (Rd H a (.lst xs) ∧ ¬ M a) ∨ ∃ (o : Obj) (its : Array Value) (n : Nat), K.lookup a = some o ∧ o.cls = .type "list" ∧ o.dict = none ∧ o.data = .seq its n ∧ its.size ≤ sizeLine ∧ Vals xs its.toList
def FT (K : PySem.W.Frag) (H : Hp) (M : AS) (a : Addr) (xs : List V) : Prop :=
  (Rd H a (.tup xs) ∧ ¬ M a) ∨ ∃ (o : Obj) (its : Array Value) (n : Nat), K.lookup a = some o ∧ o.cls = .type "tuple" ∧ o.data = .seq its n ∧ its.size ≤ sizeLine ∧ Vals xs its.toList
theorem FL.sq {K : PySem.W.Frag} {H : Hp} {M : AS} {a : Addr} {xs : List V} (h : FL K H M a xs) : SqL K H a xs := h.imp (·.1) id
theorem FT.sq {K : PySem.W.Frag} {H : Hp} {M : AS} {a : Addr} {xs : List V} (h : FT K H M a xs) : SqT K H a xs := h.imp (·.1) id
theorem nt_lst {xs : List V} : NT (.lst xs) := fun _ h => by cases h
theorem nt_tup {xs : List V} : NT (.tup xs) := fun _ h => by cases h
theorem nt_dK {xs : List (Key × V)} : NT (.dK xs) := fun _ h => by cases h
theorem nt_frz {o : Obj} {u : HO} : NT (.frz o u) := fun _ h => by cases h
theorem rd_fre {H : Hp} {a : Addr} {u : HO} (h : Rd H a u) (n : NT u) : ¬ Fre H a := fun z => by
  rcases h with h | ⟨o, h⟩
  · exact z _ h n
  · exact z _ h nt_frz
theorem rd_ext {M : AS} {H H' : Hp} {a : Addr} {u : HO} (e : Ext M H H') (h : Rd H a u) (n : NT u) (k : ¬ M a) : Rd H' a u := by
  rcases h with h | ⟨o, h⟩
  · exact .inl ((e a _ h n).1 k)
  · exact .inr ⟨o, (e a _ h nt_frz).1 k⟩
theorem FL.ext {K : PySem.W.Frag} {H H' : Hp} {M : AS} {a : Addr} {xs : List V} (h : FL K H M a xs) (e : Ext M H H') : FL K H' M a xs :=
  h.imp (fun z => ⟨rd_ext e z.1 nt_lst z.2, z.2⟩) id
theorem FT.ext {K : PySem.W.Frag} {H H' : Hp} {M : AS} {a : Addr} {xs : List V} (h : FT K H M a xs) (e : Ext M H H') : FT K H' M a xs :=
  h.imp (fun z => ⟨rd_ext e z.1 nt_tup z.2, z.2⟩) id
theorem FL.avoid {K : PySem.W.Frag} {H : Hp} {M M' : AS} {a : Addr} {xs : List V} (h : FL K H M a xs) (s : ∀ a, M' a → M a ∨ Fre H a) : FL K H M' a xs :=
  h.imp (fun z => ⟨z.1, fun q => (s a q).elim z.2 (rd_fre z.1 nt_lst)⟩) id
theorem FT.avoid {K : PySem.W.Frag} {H : Hp} {M M' : AS} {a : Addr} {xs : List V} (h : FT K H M a xs) (s : ∀ a, M' a → M a ∨ Fre H a) : FT K H M' a xs :=
  h.imp (fun z => ⟨z.1, fun q => (s a q).elim z.2 (rd_fre z.1 nt_tup)⟩) id

/-- the key of a dict that a datum is -/
def keyD : D → Option Key
  | .int i => some (.inl i)
  | .str x => some (.inr x)
  | _ => none

mutual
/-- v stands for the datum; its lists and dicts are none of M -/
inductive Rp (K : PySem.W.Frag) (H : Hp) (M : AS) : V → D → Prop
  | non : Rp K H M .non .none
  | bl (b : Bool) : Rp K H M (.bl b) (.bool b)
  | int (i : Int) : Rp K H M (.int i) (.int i)
  | str (x : Str) : Rp K H M (.str x) (.str x)
  | lst {a : Addr} {xs : List V} {ds : List D} : FL K H M a xs → RpAll K H M xs ds → Rp K H M (.ref a) (.list ds)
  | tup {a : Addr} {xs : List V} {ds : List D} : FT K H M a xs → RpAll K H M xs ds → Rp K H M (.ref a) (.tuple ds)
  | dic {a : Addr} {hk : List (Key × V)} {kvs : List (D × D)} : Rd H a (.dK hk) → ¬ M a → RpKV K H M hk kvs → Rp K H M (.ref a) (.dict kvs)
inductive RpAll (K : PySem.W.Frag) (H : Hp) (M : AS) : List V → List D → Prop
  | nil : RpAll K H M [] []
  | cons {v : V} {vs : List V} {d : D} {ds : List D} : Rp K H M v d → RpAll K H M vs ds → RpAll K H M (v :: vs) (d :: ds)
inductive RpKV (K : PySem.W.Frag) (H : Hp) (M : AS) : List (Key × V) → List (D × D) → Prop
  | nil : RpKV K H M [] []
  | cons {k : Key} {v : V} {r : List (Key × V)} {x d : D} {ds : List (D × D)} : keyD x = some k → Rp K H M v d → RpKV K H M r ds → RpKV K H M ((k, v) :: r) ((x, d) :: ds)
end
section
variable {K : PySem.W.Frag} {H H' : Hp} {M M' : AS}
mutual
theorem Rp.ext (e : Ext M H H') : ∀ {v : V} {d : D}, Rp K H M v d → Rp K H' M v d
  | _, _, .non => .non
  | _, _, .bl b => .bl b
  | _, _, .int i => .int i
  | _, _, .str x => .str x
  | _, _, .lst h a => .lst (h.ext e) (RpAll.ext e a)
  | _, _, .tup h a => .tup (h.ext e) (RpAll.ext e a)
  | _, _, .dic h n a => .dic (rd_ext e h nt_dK n) n (RpKV.ext e a)
theorem RpAll.ext (e : Ext M H H') : ∀ {v : List V} {d : List D}, RpAll K H M v d → RpAll K H' M v d
  | _, _, .nil => .nil
  | _, _, .cons h t => .cons (Rp.ext e h) (RpAll.ext e t)
theorem RpKV.ext (e : Ext M H H') : ∀ {v : List (Key × V)} {d : List (D × D)}, RpKV K H M v d → RpKV K H' M v d
  | _, _, .nil => .nil
  | _, _, .cons k h t => .cons k (Rp.ext e h) (RpKV.ext e t)
end
mutual
theorem Rp.avoid (s : ∀ a, M' a → M a ∨ Fre H a) : ∀ {v : V} {d : D}, Rp K H M v d → Rp K H M' v d
  | _, _, .non => .non
  | _, _, .bl b => .bl b
  | _, _, .int i => .int i
  | _, _, .str x => .str x
  | _, _, .lst h a => .lst (h.avoid s) (RpAll.avoid s a)
  | _, _, .tup h a => .tup (h.avoid s) (RpAll.avoid s a)
  | _, _, .dic h n a => .dic h (fun q => (s _ q).elim n (rd_fre h nt_dK)) (RpKV.avoid s a)
theorem RpAll.avoid (s : ∀ a, M' a → M a ∨ Fre H a) : ∀ {v : List V} {d : List D}, RpAll K H M v d → RpAll K H M' v d
  | _, _, .nil => .nil
  | _, _, .cons h t => .cons (Rp.avoid s h) (RpAll.avoid s t)
theorem RpKV.avoid (s : ∀ a, M' a → M a ∨ Fre H a) : ∀ {v : List (Key × V)} {d : List (D × D)}, RpKV K H M v d → RpKV K H M' v d
  | _, _, .nil => .nil
  | _, _, .cons k h t => .cons k (Rp.avoid s h) (RpKV.avoid s t)
end
theorem RpAll.length : ∀ {v : List V} {d : List D}, RpAll K H M v d → v.length = d.length
  | _, _, .nil => rfl
  | _, _, .cons _ t => congrArg (· + 1) t.length
theorem RpAll.get : ∀ {vs : List V} {ds : List D} {i : Nat} {d : D}, RpAll K H M vs ds → ds[i]? = some d → ∃ v, vs[i]? = some v ∧ Rp K H M v d
  | _, _, _, _, .nil, e => by simp at e
  | _, _, 0, _, .cons h _, e => by simp at e; subst e; exact ⟨_, rfl, h⟩
  | _, _, i + 1, d, .cons _ t, e => by
    obtain ⟨v, h1, h2⟩ := RpAll.get (i := i) (d := d) t (by simpa using e)
    exact ⟨v, by simpa using h1, h2⟩
theorem RpAll.getV : ∀ {vs : List V} {ds : List D} {i : Nat} {v : V}, RpAll K H M vs ds → vs[i]? = some v → ∃ d, ds[i]? = some d ∧ Rp K H M v d
  | _, _, _, _, .nil, e => by simp at e
  | _, _, 0, _, .cons h _, e => by simp at e; subst e; exact ⟨_, rfl, h⟩
  | _, _, i + 1, v, .cons _ t, e => by
    obtain ⟨d, h1, h2⟩ := RpAll.getV (i := i) (v := v) t (by simpa using e)
    exact ⟨d, by simpa using h1, h2⟩
theorem RpAll.app : ∀ {vs ws : List V} {ds es : List D}, RpAll K H M vs ds → RpAll K H M ws es → RpAll K H M (vs ++ ws) (ds ++ es)
  | _, _, _, _, .nil, q => q
  | _, _, _, _, .cons h t, q => .cons h (t.app q)
theorem RpAll.take : ∀ {vs : List V} {ds : List D} (n : Nat), RpAll K H M vs ds → RpAll K H M (vs.take n) (ds.take n)
  | _, _, 0, _ => .nil
  | _, _, _ + 1, .nil => .nil
  | _, _, n + 1, .cons h t => .cons h (t.take n)
theorem RpAll.drop : ∀ {vs : List V} {ds : List D} (n : Nat), RpAll K H M vs ds → RpAll K H M (vs.drop n) (ds.drop n)
  | _, _, 0, h => h
  | _, _, _ + 1, .nil => .nil
  | _, _, n + 1, .cons _ t => t.drop n
theorem RpAll.rev {vs : List V} {ds : List D} (h : RpAll K H M vs ds) : RpAll K H M vs.reverse ds.reverse := by
  induction vs generalizing ds with
  | nil => cases h; exact .nil
  | cons v vs ih =>
    cases h with
    | cons h t => rw [List.reverse_cons, List.reverse_cons]; exact (ih t).app (.cons h .nil)
theorem RpAll.set : ∀ {vs : List V} {ds : List D} (i : Nat) {v : V} {d : D}, Rp K H M v d → RpAll K H M vs ds → RpAll K H M (vs.set i v) (ds.set i d)
  | _, _, _, _, _, _, .nil => .nil
  | _, _, 0, _, _, r, .cons _ t => .cons r t
  | _, _, i + 1, _, _, r, .cons h t => .cons h (t.set i r)
theorem RpAll.dropLast {vs : List V} {ds : List D} (h : RpAll K H M vs ds) : RpAll K H M vs.dropLast ds.dropLast := by
  rw [List.dropLast_eq_take, List.dropLast_eq_take, h.length]; exact h.take _
theorem RpAll.rep {vs : List V} {ds : List D} (h : RpAll K H M vs ds) : ∀ n : Nat, RpAll K H M (List.replicate n vs).flatten (List.replicate n ds).flatten
  | 0 => .nil
  | n + 1 => by rw [List.replicate_succ, List.replicate_succ, List.flatten_cons, List.flatten_cons]; exact h.app (h.rep n)
end

/-! ### slots -/
/-- what a slot holds: a datum, or a list of its own, changed in place (pin: a caller's) -/
inductive SV where
  | d (x : D)
  | own (pin : Bool) (xs : List D)
abbrev En := List (Option SV)
/-- the list at a is a slot's own -/
def OwnAt (σ : St) (e : En) : AS := fun a => ∃ (i : Nat) (p : Bool) (xs : List D), e[i]? = some (some (SV.own p xs)) ∧ σ[i]? = some (some (V.ref a))
/-- what is fixed through a def's body: A, lists that are others' own; G, what holds of every heap; the exceptions' classes; the wish of them -/
structure Kt where
  A : AS
  G : Hp → Prop
  ec : Nat → Addr
/-- what may be changed by stores -/
def Plain : HO → Prop
  | .lst _ => True
  | .dK _ => True
  | .frz _ _ => True
  | _ => False
/-- G outlives new objects and stores -/
def GOk (G : Hp → Prop) : Prop := ∀ H p o, G H → (∀ u, H p = some u → Plain u) → G (upd H p o)
theorem GOk.new {G : Hp → Prop} (g : GOk G) {H : Hp} {p : Addr} {o : HO} (h : G H) (n : H p = none) : G (upd H p o) := g H p o h fun u q => by rw [n] at q; cases q
theorem GOk.set {G : Hp → Prop} (g : GOk G) {H : Hp} {p : Addr} {o : HO} {xs : List V} (h : G H) (n : H p = some (.lst xs)) : G (upd H p o) := g H p o h fun u q => by rw [n] at q; cases q; trivial
def AO (κ : Kt) (σ : St) (e : En) : AS := fun a => κ.A a ∨ OwnAt σ e a
structure Rel (K : PySem.W.Frag) (κ : Kt) (σ : St) (H : Hp) (e : En) : Prop where
  len : e.length = σ.length
  dat : ∀ (i : Nat) (x : D), e[i]? = some (some (SV.d x)) → ∃ v, σ[i]? = some (some v) ∧ Rp K H (AO κ σ e) v x
  own : ∀ (i : Nat) (p : Bool) (xs : List D), e[i]? = some (some (SV.own p xs)) → ∃ a vs, σ[i]? = some (some (V.ref a)) ∧ H a = some (.lst vs) ∧ ¬ κ.A a ∧ RpAll K H (AO κ σ e) vs xs
  inj : ∀ (i j : Nat) (p q : Bool) (xs ys : List D) (a : Addr), e[i]? = some (some (SV.own p xs)) → e[j]? = some (some (SV.own q ys)) → σ[i]? = some (some (V.ref a)) → σ[j]? = some (some (V.ref a)) → i = j
  av : ∀ a, κ.A a → ¬ Fre H a
  g : κ.G H
/-- from a state to a later one -/
structure Step (K : PySem.W.Frag) (κ : Kt) (σ : St) (H : Hp) (e : En) (σ' : St) (H' : Hp) (e' : En) : Prop where
  rel : Rel K κ σ' H' e'
  ext : Ext (OwnAt σ e) H H'
  own : ∀ a, OwnAt σ' e' a → OwnAt σ e a ∨ Fre H a
  pin : ∀ (i : Nat) (xs : List D), e[i]? = some (some (SV.own true xs)) → (∃ ys, e'[i]? = some (some (SV.own true ys))) ∧ σ'[i]? = σ[i]?
section
variable {K : PySem.W.Frag} {κ : Kt} {σ σ1 σ2 : St} {H H1 H2 H' : Hp} {e e1 e2 : En}
theorem OwnAt.notFre (R : Rel K κ σ H e) {a : Addr} (h : OwnAt σ e a) : ¬ Fre H a := fun z => by
  obtain ⟨i, p, xs, h1, h2⟩ := h
  obtain ⟨b, vs, q1, q2, _⟩ := R.own i p xs h1
  rw [h2] at q1; cases q1
  exact z _ q2 nt_lst
theorem AO.notFre (R : Rel K κ σ H e) {a : Addr} (h : AO κ σ e a) : ¬ Fre H a := h.elim (R.av a) (OwnAt.notFre R)
theorem Step.refl (R : Rel K κ σ H e) : Step K κ σ H e σ H e := ⟨R, .refl H, fun _ h => .inl h, fun i xs h => ⟨⟨xs, h⟩, rfl⟩⟩
theorem Step.trans (a : Step K κ σ H e σ1 H1 e1) (b : Step K κ σ1 H1 e1 σ2 H2 e2) : Step K κ σ H e σ2 H2 e2 where
  rel := b.rel
  ext := a.ext.trans b.ext a.own
  own := fun x h => by
    rcases b.own x h with h | h
    · exact a.own x h
    · exact .inr (a.ext.fre h)
  pin := fun i xs h => by
    obtain ⟨⟨ys, h1⟩, q1⟩ := a.pin i xs h
    obtain ⟨⟨zs, h2⟩, q2⟩ := b.pin i ys h1
    exact ⟨⟨zs, h2⟩, q2.trans q1⟩
theorem Ext.ao (x : Ext (OwnAt σ e) H H') : Ext (AO κ σ e) H H' := x.mono fun _ h => .inr h
theorem Rp.go {M M' : AS} (x : Ext M H H') (s : ∀ a, M' a → M a ∨ Fre H a) {v : V} {d : D} (h : Rp K H M v d) : Rp K H' M' v d := by
  have h1 : Rp K H (fun a => M a ∨ M' a) v d := h.avoid fun a q => q.elim .inl (s a)
  exact (h1.ext (x.mono fun _ q => .inl q)).avoid fun a q => .inl (.inr q)
theorem RpAll.go {M M' : AS} (x : Ext M H H') (s : ∀ a, M' a → M a ∨ Fre H a) {v : List V} {d : List D} (h : RpAll K H M v d) : RpAll K H' M' v d := by
  have h1 : RpAll K H (fun a => M a ∨ M' a) v d := h.avoid fun a q => q.elim .inl (s a)
  exact (h1.ext (x.mono fun _ q => .inl q)).avoid fun a q => .inl (.inr q)
theorem Step.ao (s : Step K κ σ H e σ1 H1 e1) : ∀ a, AO κ σ1 e1 a → AO κ σ e a ∨ Fre H a := fun a q => by
  rcases q with q | q
  · exact .inl (.inl q)
  · exact (s.own a q).imp .inr id
/-- what stood before stands behind -/
theorem Step.rp (s : Step K κ σ H e σ1 H1 e1) {v : V} {d : D} (h : Rp K H (AO κ σ e) v d) : Rp K H1 (AO κ σ1 e1) v d := h.go s.ext.ao s.ao
theorem Step.rpAll (s : Step K κ σ H e σ1 H1 e1) {v : List V} {d : List D} (h : RpAll K H (AO κ σ e) v d) : RpAll K H1 (AO κ σ1 e1) v d := h.go s.ext.ao s.ao
/-- only new objects -/
theorem Step.same (R : Rel K κ σ H e) (s : Same H H') (g : κ.G H') : Step K κ σ H e σ H' e where
  rel := {
    len := R.len
    dat := fun i x h => let ⟨v, h1, h2⟩ := R.dat i x h; ⟨v, h1, h2.ext s.ext⟩
    own := fun i p xs h => let ⟨a, vs, h1, h2, h3, h4⟩ := R.own i p xs h; ⟨a, vs, h1, s a _ h2, h3, h4.ext s.ext⟩
    inj := R.inj
    av := fun a h z => R.av a h fun o q n => z o (s a o q) n
    g := g }
  ext := s.ext
  own := fun a h => .inl h
  pin := fun i xs h => ⟨⟨xs, h⟩, rfl⟩
end
end Fw
namespace Fw
open PySem PySem.Spec L2

/-! ### what an evaluation comes to -/
/-- a value, or the slot that holds it -/
inductive Ref where
  | imm (d : D)
  | slot (i : Nat)
inductive EOut (α : Type) where
  | ok (a : α) (e : En)
  | exc (c : Nat) (e : En)
  | bad
def EOut.bind {α β : Type} (x : EOut α) (f : α → En → EOut β) : EOut β := match x with
  | .ok a e => f a e
  | .exc c e => .exc c e
  | .bad => .bad
@[simp] theorem EOut.bind_ok {α β : Type} (a : α) (e : En) (f : α → En → EOut β) : (EOut.ok a e).bind f = f a e := rfl
@[simp] theorem EOut.bind_exc {α β : Type} (c : Nat) (e : En) (f : α → En → EOut β) : (EOut.exc c e).bind f = .exc c e := rfl
@[simp] theorem EOut.bind_bad {α β : Type} (f : α → En → EOut β) : (EOut.bad).bind f = .bad := rfl
/-- what an outcome satisfies -/
def sat {α : Type} (x : EOut α) (P : α → En → Prop) (E : Nat → En → Prop) : Prop := match x with
  | .ok a e => P a e
  | .exc c e => E c e
  | .bad => False
theorem sat_bind {α β : Type} {x : EOut α} {f : α → En → EOut β} {P : β → En → Prop} {E : Nat → En → Prop} (h : sat (x.bind f) P E) : sat x (fun a e => sat (f a e) P E) E := by
  cases x <;> exact h
theorem sat.mono {α : Type} {x : EOut α} {P P' : α → En → Prop} {E E' : Nat → En → Prop} (h : sat x P E) (p : ∀ a e, P a e → P' a e) (q : ∀ c e, E c e → E' c e) : sat x P' E' := by
  cases x with
  | ok a e => exact p a e h
  | exc c e => exact q c e h
  | bad => exact h
def svD : SV → D
  | .d x => x
  | .own _ xs => .list xs
def Ref.rd (r : Ref) (e : En) : Option D := match r with
  | .imm d => some d
  | .slot i => match e[i]? with
    | some (some s) => some (svD s)
    | _ => none
def rdK {β : Type} (r : Ref) (e : En) (k : D → EOut β) : EOut β := match r.rd e with
  | some d => k d
  | none => .bad
@[simp] theorem rdK_imm {β : Type} (d : D) (e : En) (k : D → EOut β) : rdK (.imm d) e k = k d := rfl
def optK {β : Type} (o : Option D) (e : En) (k : D → EOut β) : EOut β := match o with
  | some d => k d
  | none => .bad
@[simp] theorem optK_some {β : Type} (d : D) (e : En) (k : D → EOut β) : optK (some d) e k = k d := rfl
@[simp] theorem optK_none {β : Type} (e : En) (k : D → EOut β) : optK none e k = .bad := rfl
def okD (o : Option D) (e : En) : EOut Ref := match o with
  | some d => .ok (.imm d) e
  | none => .bad
@[simp] theorem okD_some (d : D) (e : En) : okD (some d) e = .ok (.imm d) e := rfl
@[simp] theorem okD_none (e : En) : okD none e = .bad := rfl

theorem sat_rd {β : Type} {r : Ref} {e : En} {k : D → EOut β} {P : β → En → Prop} {E : Nat → En → Prop} (h : sat (rdK r e k) P E) : ∃ d, r.rd e = some d ∧ sat (k d) P E := by
  unfold rdK at h
  cases q : r.rd e with
  | none => rw [q] at h; exact h.elim
  | some d => rw [q] at h; exact ⟨d, rfl, h⟩
theorem sat_okD {o : Option D} {e : En} {P : Ref → En → Prop} {E : Nat → En → Prop} (h : sat (okD o e) P E) : ∃ d, o = some d ∧ P (.imm d) e := by
  cases o with
  | none => exact h.elim
  | some d => exact ⟨d, rfl, h⟩
theorem sat_opt {β : Type} {o : Option D} {e : En} {k : D → EOut β} {P : β → En → Prop} {E : Nat → En → Prop} (h : sat (optK o e k) P E) : ∃ d, o = some d ∧ sat (k d) P E := by
  cases o with
  | none => exact h.elim
  | some d => exact ⟨d, rfl, h⟩

/-! ### readings -/
/-- what a reference stands for -/
def RpR (K : PySem.W.Frag) (κ : Kt) (σ : St) (H : Hp) (e : En) (r : Ref) (v : V) : Prop := match r with
  | .imm d => Rp K H (AO κ σ e) v d
  | .slot i => σ[i]? = some (some v)
/-- the datum as it is read at once: a list that stands there may be any -/
inductive RpT (K : PySem.W.Frag) (H : Hp) (M : AS) : V → D → Prop
  | of {v : V} {d : D} (h : Rp K H M v d) : RpT K H M v d
  | lst {a : Addr} {xs : List V} {ds : List D} (h : H a = some (.lst xs)) (r : RpAll K H M xs ds) : RpT K H M (.ref a) (.list ds)
section
variable {K : PySem.W.Frag} {κ : Kt} {σ σ1 : St} {H H1 : Hp} {e e1 : En} {r : Ref} {v : V} {d : D}
theorem RpR.step (s : Step K κ σ H e σ H1 e1) (h : RpR K κ σ H e r v) : RpR K κ σ H1 e1 r v := by
  cases r with
  | imm d => exact s.rp h
  | slot i => exact h
theorem RpR.rd (R : Rel K κ σ H e) (h : RpR K κ σ H e r v) (q : r.rd e = some d) : RpT K H (AO κ σ e) v d := by
  cases r with
  | imm x => cases q; exact .of h
  | slot i =>
    have h : σ[i]? = some (some v) := h
    unfold Ref.rd at q
    dsimp only at q
    split at q
    · rename_i s hs
      cases q
      cases s with
      | d x =>
        obtain ⟨w, h1, h2⟩ := R.dat i x hs
        rw [h] at h1; cases h1
        exact .of h2
      | own p xs =>
        obtain ⟨a, vs, h1, h2, _, h4⟩ := R.own i p xs hs
        rw [h] at h1; cases h1
        exact .lst h2 h4
    · cases q
end

/-- an exception of an own class bears no dict, but those of class 11 (with an __init__ of its own) -/
def dxOk (c : Nat) (od : Option Addr) : Prop := c ≠ 11 → od = none
/-- behind an exception -/
def PX (K : PySem.W.Frag) (κ : Kt) (W : WX) (σ : St) (H : Hp) (e : En) (c : Nat) (e' : En) : Prop := ∀ od H', dxOk c od → Step K κ σ H e σ H' e' → W (.ref (κ.ec c)) od σ H'
theorem PX.from {K : PySem.W.Frag} {κ : Kt} {W : WX} {σ : St} {H H1 : Hp} {e e1 : En} (s : Step K κ σ H e σ H1 e1) {c : Nat} {e' : En} (h : PX K κ W σ H e c e') : PX K κ W σ H1 e1 c e' := fun od H' z s2 => h od H' z (s.trans s2)
/-- the reading that an evaluation is. W: what is wanted of an exception -/
def tE (K : PySem.W.Frag) (κ : Kt) (W : WX) (f : En → EOut Ref) : TE := fun σ H Q => ∃ e, Rel K κ σ H e ∧
  sat (f e) (fun r e' => ∀ v H', Step K κ σ H e σ H' e' → RpR K κ σ H' e' r v → Q v H') (PX K κ W σ H e)
/-- a value's truth -/
def truthD : D → Option Bool
  | .none => some false
  | .bool b => some b
  | .int i => some (i != 0)
  | .str x => if x.length ≤ sizeLine then some ((x.length : Int) != 0) else none
  | .list xs => some (!xs.isEmpty)
  | .tuple xs => some (!xs.isEmpty)
  | .dict _ => none
def truK {β : Type} (r : Ref) (e : En) (k : Bool → EOut β) : EOut β := rdK r e fun d => match truthD d with
  | some b => k b
  | none => .bad
theorem sat_tru {β : Type} {r : Ref} {e : En} {k : Bool → EOut β} {P : β → En → Prop} {E : Nat → En → Prop} (h : sat (truK r e k) P E) : ∃ d b, r.rd e = some d ∧ truthD d = some b ∧ sat (k b) P E := by
  obtain ⟨d, h1, h⟩ := sat_rd h
  cases q : truthD d with
  | none => rw [q] at h; exact h.elim
  | some b => rw [q] at h; exact ⟨d, b, h1, q, h⟩
def tT (K : PySem.W.Frag) (κ : Kt) (W : WX) (f : En → EOut Ref) : TT := fun σ H Q => ∃ e, Rel K κ σ H e ∧
  sat (f e) (fun r e' => ∃ d b, r.rd e' = some d ∧ truthD d = some b ∧ ∀ H', Step K κ σ H e σ H' e' → Q b H') (PX K κ W σ H e)
/-- argument lists -/
def RpRs (K : PySem.W.Frag) (κ : Kt) (σ : St) (H : Hp) (e : En) : List Ref → List V → Prop
  | [], vs => vs = []
  | r :: rs, vs => ∃ v vr, vs = v :: vr ∧ RpR K κ σ H e r v ∧ RpRs K κ σ H e rs vr
theorem RpRs.step {K : PySem.W.Frag} {κ : Kt} {σ : St} {H H1 : Hp} {e e1 : En} (s : Step K κ σ H e σ H1 e1) : ∀ {rs : List Ref} {vs : List V}, RpRs K κ σ H e rs vs → RpRs K κ σ H1 e1 rs vs
  | [], _, h => h
  | _ :: _, _, ⟨v, vr, h1, h2, h3⟩ => ⟨v, vr, h1, h2.step s, RpRs.step s h3⟩
def tL (K : PySem.W.Frag) (κ : Kt) (W : WX) (f : En → EOut (List Ref)) : TA := fun σ H Q => ∃ e, Rel K κ σ H e ∧
  sat (f e) (fun rs e' => ∀ vs H', Step K κ σ H e σ H' e' → RpRs K κ σ H' e' rs vs → Q vs H') (PX K κ W σ H e)

/-! ### a reading under a weaker one -/
section
variable {X : Cx} {e a b : Expr} {es : List Expr}
theorem pe_imp {t t' : TE} (h : PE X e t) (i : ∀ σ H Q, t' σ H Q → t σ H Q) : PE X e t' := ⟨fun pins s σ H Q I q => h.run pins s σ H Q I (i σ H Q q)⟩
theorem pt_imp {t t' : TT} (h : PT X e t) (i : ∀ σ H Q, t' σ H Q → t σ H Q) : PT X e t' := ⟨fun pins s σ H Q I q => h.run pins s σ H Q I (i σ H Q q)⟩
theorem pw_imp {t t' : TT} (h : PW X e t) (i : ∀ σ H Q, t' σ H Q → t σ H Q) : PW X e t' := ⟨fun w pins s σ H Q I q => h.run w pins s σ H Q I (i σ H Q q)⟩
theorem pa_imp {t t' : TA} (h : PA X es t) (i : ∀ σ H Q, t' σ H Q → t σ H Q) : PA X es t' := ⟨fun p pins s σ H Q I q => h.run p pins s σ H Q I (i σ H Q q)⟩
theorem ps_imp {st : Stmt} {t t' : TS} (h : PS X st t) (i : ∀ D σ H, t' D σ H → t D σ H) : PS X st t' := ⟨fun pins s σ H D I q => h.run pins s σ H D I (i D σ H q)⟩
theorem pss_imp {st : List Stmt} {t t' : TS} (h : PSs X st t) (i : ∀ D σ H, t' D σ H → t D σ H) : PSs X st t' := ⟨fun pins s σ H D I q => h.run pins s σ H D I (i D σ H q)⟩
end

section
variable {X : Cx} {κ : Kt} {W : WX} {pos : Pos} {a b c : Expr} {fa fb fc : En → EOut Ref}
/-! names and constants -/
def dVar (i : Nat) : En → EOut Ref := fun e => match e[i]? with
  | some (some (.d x)) => .ok (.imm x) e
  | some (some (.own false xs)) => .ok (.imm (.list xs)) (e.set i (some (.d (.list xs))))
  | _ => .bad
def dPeek (i : Nat) : En → EOut Ref := fun e => match e[i]? with
  | some (some _) => .ok (.slot i) e
  | _ => .bad
end
section
variable {K : PySem.W.Frag} {κ : Kt} {σ : St} {H : Hp} {e : En} {i : Nat}
theorem getset_ne {α : Type} {l : List α} {i j : Nat} {x : α} (h : i ≠ j) : (l.set i x)[j]? = l[j]? := by rw [List.getElem?_set_ne h]
theorem getset_eq {α : Type} {l : List α} {i : Nat} {x y : α} (h : l[i]? = some y) : (l.set i x)[i]? = some x := by
  rw [List.getElem?_set_self]
  exact (List.getElem?_eq_some_iff.mp h).1
/-- a slot's own list becomes a datum -/
theorem freeze (R : Rel K κ σ H e) {xs : List D} (h : e[i]? = some (some (SV.own false xs))) :
    ∃ a, σ[i]? = some (some (V.ref a)) ∧ Step K κ σ H e σ H (e.set i (some (.d (.list xs)))) ∧ Rp K H (AO κ σ (e.set i (some (.d (.list xs))))) (.ref a) (.list xs) := by
  obtain ⟨a, vs, h1, h2, h3, h4⟩ := R.own i false xs h
  have sub : ∀ b, OwnAt σ (e.set i (some (.d (.list xs)))) b → OwnAt σ e b ∧ b ≠ a := fun b ⟨j, p, ys, q1, q2⟩ => by
    have hj : i ≠ j := fun z => by subst z; rw [getset_eq h] at q1; cases q1
    rw [getset_ne hj] at q1
    refine ⟨⟨j, p, ys, q1, q2⟩, fun z => ?_⟩
    subst z
    exact hj (R.inj i j _ _ _ _ b h q1 h1 q2)
  have av : ∀ b, AO κ σ (e.set i (some (.d (.list xs)))) b → AO κ σ e b ∨ Fre H b := fun b q => .inl (q.imp id fun z => (sub b z).1)
  have ra : Rp K H (AO κ σ (e.set i (some (.d (.list xs))))) (.ref a) (.list xs) := .lst (.inl ⟨.inl h2, fun z => by
    rcases z with z | z
    · exact h3 z
    · exact (sub a z).2 rfl⟩) (h4.avoid av)
  refine ⟨a, h1, ⟨⟨by rw [List.length_set]; exact R.len, fun j x q => ?_, fun j p ys q => ?_, fun j k p q xs' ys' b q1 q2 => ?_, R.av, R.g⟩, .refl H, fun b q => .inl (sub b q).1, fun j ys q => ⟨⟨ys, ?_⟩, rfl⟩⟩, ra⟩
  · by_cases hj : i = j
    · subst hj
      rw [getset_eq h] at q; cases q
      exact ⟨_, h1, ra⟩
    · rw [getset_ne hj] at q
      obtain ⟨v, k1, k2⟩ := R.dat j x q
      exact ⟨v, k1, k2.avoid av⟩
  · have hj : i ≠ j := fun z => by subst z; rw [getset_eq h] at q; cases q
    rw [getset_ne hj] at q
    obtain ⟨b, ws, k1, k2, k3, k4⟩ := R.own j p ys q
    exact ⟨b, ws, k1, k2, k3, k4.avoid av⟩
  · have hj : i ≠ j := fun z => by subst z; rw [getset_eq h] at q1; cases q1
    have hk : i ≠ k := fun z => by subst z; rw [getset_eq h] at q2; cases q2
    rw [getset_ne hj] at q1
    rw [getset_ne hk] at q2
    exact R.inj j k p q xs' ys' b q1 q2
  · have hj : i ≠ j := fun z => by subst z; rw [h] at q; cases q
    rw [getset_ne hj]; exact q
end
section
variable {X : Cx} {κ : Kt} {W : WX} {pos : Pos} {a b c : Expr} {fa fb fc : En → EOut Ref}
theorem ev_var {i : Nat} {x : Str} (hN : X.N[i]? = some x) (hv : Vis X.env.scope x) (hd : (x == ("__debug__" : Str)) = false) (hcd : (x == ("__classdict__" : Str)) = false) : PE X (.Name x pos) (tE X.K κ W (dVar i)) := by
  refine pe_imp (pe_var hN hv hd hcd) fun σ H Q ⟨e, R, h⟩ => ?_
  cases q : e[i]? with
  | none => unfold dVar at h; rw [q] at h; exact h.elim
  | some o =>
    cases o with
    | none => unfold dVar at h; rw [q] at h; exact h.elim
    | some s =>
      cases s with
      | d x' =>
        unfold dVar at h; rw [q] at h
        obtain ⟨v, h1, h2⟩ := R.dat i x' q
        exact ⟨v, h1, h v H (.refl R) h2⟩
      | own p xs =>
        cases p with
        | true => unfold dVar at h; rw [q] at h; exact h.elim
        | false =>
          unfold dVar at h; rw [q] at h
          obtain ⟨a, h1, s, r⟩ := freeze R q
          exact ⟨.ref a, h1, h _ H s r⟩
theorem ev_peek {i : Nat} {x : Str} (hN : X.N[i]? = some x) (hv : Vis X.env.scope x) (hd : (x == ("__debug__" : Str)) = false) (hcd : (x == ("__classdict__" : Str)) = false) : PE X (.Name x pos) (tE X.K κ W (dPeek i)) := by
  refine pe_imp (pe_var hN hv hd hcd) fun σ H Q ⟨e, R, h⟩ => ?_
  cases q : e[i]? with
  | none => unfold dPeek at h; rw [q] at h; exact h.elim
  | some o =>
    cases o with
    | none => unfold dPeek at h; rw [q] at h; exact h.elim
    | some s =>
      unfold dPeek at h; rw [q] at h
      cases s with
      | d x' =>
        obtain ⟨v, h1, _⟩ := R.dat i x' q
        exact ⟨v, h1, h v H (.refl R) h1⟩
      | own p xs =>
        obtain ⟨a, vs, h1, _⟩ := R.own i p xs q
        exact ⟨_, h1, h _ H (.refl R) h1⟩
/-- a datum that needs no object -/
def scV : D → Option V
  | .none => some .non
  | .bool b => some (.bl b)
  | .int i => some (.int i)
  | .str x => some (.str x)
  | _ => none
theorem scV_rp {K : PySem.W.Frag} {H : Hp} {M : AS} {d : D} {v : V} (h : scV d = some v) : Rp K H M v d := by
  cases d <;> simp only [scV, Option.some.injEq, reduceCtorEq] at h <;> subst h <;> constructor
theorem ev_cst {d : D} {v : V} (hd : scV d = some v) (h : PE X a (tC v)) : PE X a (tE X.K κ W fun e => .ok (.imm d) e) :=
  pe_imp h fun σ H Q ⟨e, R, h⟩ => h v H (.refl R) (scV_rp hd)

/-! operators: r reads g -/
/-- the rule r gives what g says, laying at most new objects -/
def RG (K : PySem.W.Frag) (G : Hp → Prop) (r : R2) (g : D → D → Option D) : Prop :=
  ∀ (H : Hp) (M : AS) (x y : V) (d d' z : D) (Q : VK), G H → (∀ a, M a → ¬ Fre H a) → RpT K H M x d → RpT K H M y d' → g d d' = some z → (∀ v H', Same H H' → G H' → Rp K H' M v z → Q v H') → r x y H Q
theorem ev_bin {op : Operator} {r : R2} {g : D → D → Option D} (ho : OpR X (binaryOp op) r) (hr : RG X.K κ.G r g) (ha : PE X a (tE X.K κ W fa)) (hb : PE X b (tE X.K κ W fb)) :
    PE X (.BinOp a op b pos) (tE X.K κ W fun e => (fa e).bind fun x e1 => (fb e1).bind fun y e2 => rdK x e2 fun d => rdK y e2 fun d' => okD (g d d') e2) := by
  refine pe_imp (pe_op ho ha hb) fun σ H Q ⟨e, R, h⟩ => ⟨e, R, (sat_bind h).mono (fun x e1 h v H1 s1 r1 => ⟨e1, s1.rel, (sat_bind h).mono (fun y e2 h w H2 s2 r2 => ?_) fun c e' h => h.from s1⟩) fun c e' h => h⟩
  obtain ⟨d, q1, h⟩ := sat_rd h
  obtain ⟨d', q2, h⟩ := sat_rd h
  obtain ⟨z, q3, h⟩ := sat_okD h
  exact hr H2 (AO κ σ e2) v w d d' z Q s2.rel.g (fun _ z => AO.notFre s2.rel z) ((r1.step s2).rd s2.rel q1) (r2.rd s2.rel q2) q3 fun u H3 sm g3 rz => h u H3 ((s1.trans s2).trans (.same s2.rel sm g3)) rz
end
end Fw
set_option maxHeartbeats 4000000
namespace Fw
open PySem PySem.Spec PyProof.Rows L2
theorem tuple_mul1 (l : Addr) (items : Array Value) (n : Nat) (dd : Option Addr) (sl : Array (Option Value)) (x : Int) (u : Tok) (c0 : (decide (x < -(2 ^ 63)) || decide (x ≥ 2 ^ 63)) = false) (c1 : (items.isEmpty || x == 1) = true) :
    Meets (Builtin.«tuple.__mul__» ⟨[.ref l, .int x u], []⟩) (fun _ R s => s.heap.get? l = some { cls := .type "tuple", dict := dd, data := .seq items n, slots := sl } ∧
      R (.ok (.ret (Value.ref l))) s) :=
  .of_wp fun prog w A R s h => by
    obtain ⟨hp, g, d, tk, os⟩ := s
    obtain ⟨hl, h⟩ := h
    have f1 := AutoSeq1.idx_int
    wp_walk using wpAny_loadPart' hl
    repeat (first
      | (refine wpAny_ite_false (decide_eq_false (by rw [c0]; exact Bool.false_ne_true)) ?_; wp_walk using wpAny_loadPart' hl)
      | (refine wpAny_ite_true (decide_eq_true (by rw [c1])) ?_; wp_walk using wpAny_loadPart' hl))
    exact ⟨_, rfl, h⟩
theorem int_rmul_listS (a : Int) (t : Tok) (l : Addr) (items : Array Value) (n : Nat) (sl : Array (Option Value)) :
    Meets (Builtin.«int.__rmul__» ⟨[.int a t, .ref l], []⟩) (fun _ R s => s.heap.get? l = some { cls := .type "list", data := .seq items n, slots := sl } ∧ R (.ok (.ret Value.notImplemented)) s) :=
  .of_wp fun prog w A R s h => by obtain ⟨hp, g, d, tk, os⟩ := s; obtain ⟨hl, h⟩ := h; wp_walk using wpAny_loadPart' hl; exact ⟨_, rfl, h⟩
theorem list_mulS (l : Addr) (items : Array Value) (n : Nat) (sl : Array (Option Value)) (x : Int) (u : Tok) (c0 : ¬ (!Builtin.List.listFitsIndex x) = true) (c3 : ¬ items.size * x.toNat > (2 ^ 63 - 1) / 8) (c4 : ¬ Builtin.List.listTooLong (items.size * x.toNat) = true) :
    Meets (Builtin.«list.__mul__» ⟨[.ref l, .int x u], []⟩) (fun _ R s => s.heap.get? l = some { cls := .type "list", data := .seq items n, slots := sl } ∧
      R (.ok (.ret (Value.ref s.heap.objs.size))) { s with heap := s.heap.push { cls := Value.type "list", data := Data.seq (List.foldl (fun x1 x2 => x1 ++ x2) #[] (List.replicate (if items.isEmpty = true then 0 else x.toNat) items)) }, toks := s.toks }) :=
  .of_wp fun prog w A R s h => by
    obtain ⟨hp, g, d, tk, os⟩ := s
    obtain ⟨hl, h⟩ := h
    have f1 := AutoSeq1.idx_int
    have hsz := AutoListH.joined_fits c4
    wp_walk using wpAny_loadPart' hl
    repeat (first
      | (refine wpAny_ite_false (decide_eq_false c0) ?_; wp_walk using wpAny_loadPart' hl)
      | (refine wpAny_ite_false (decide_eq_false c3) ?_; wp_walk using wpAny_loadPart' hl)
      | (refine wpAny_ite_false (decide_eq_false c4) ?_; wp_walk using wpAny_loadPart' hl)
      | (refine wpAny_ite_false (decide_eq_false (Nat.not_lt.mpr hsz)) ?_; wp_walk using wpAny_loadPart' hl))
    exact ⟨_, rfl, h⟩
/-- t * 1 is t -/
def rRepT1 (K : PySem.W.Frag) : R2 := fun x y H Q => ∃ l xs, x = .ref l ∧ y = .int 1 ∧ SqT K H l xs ∧ Q (.ref l) H
def rRepL (K : PySem.W.Frag) : R2 := fun x y H Q => ∃ l k xs, x = .ref l ∧ y = .int k ∧ SqL K H l xs ∧ 0 ≤ k ∧ k ≤ 1000 ∧ xs.length ≤ 1000 ∧ ∀ p, H p = none → Q (.ref p) (upd H p (.lst (List.replicate k.toNat xs).flatten))
section
variable {X : Cx}
theorem op_repT1 : OpR X (binaryOp .Mult) (rRepT1 X.K) := by
  intro pins s σ H x y v u Q I rx ry h
  obtain ⟨l, xs, rfl, rfl, hT, q⟩ := h
  cases rx
  obtain ⟨t, rfl⟩ := ry
  obtain ⟨its, r, ⟨⟨cls, dd, data, sl⟩, ho, hc, n, hd⟩, hs⟩ := I.tuple hT
  simp only at hc hd
  subst hc hd
  refine wpAny_binaryOp_repeat_ref (T := "tuple") (U := "int") (by decide) ⟨_, ho, rfl⟩ (fun s' => typeIs_int s' 1 t) noFill_tuple_mul F.fills_int_mul F.slot_int_rmul repeat_tuple F.slot_int_index.lookup
    (call_meets F.slot_int_rmul (typeIs_int s 1 t) F.entry_int_rmul (F.args_int_rmul_2 _ _) (int_rmul_tuple 1 t l its.toArray n dd sl)
      ⟨ho, rfl, ⟨_, ho, rfl⟩, call_meets F.slot_tuple_mul ⟨_, ho, rfl⟩ F.entry_tuple_mul (F.args_tuple_mul_2 _ _) (tuple_mul1 l its.toArray n dd sl 1 t (by decide) (by simp)) ⟨ho, ?_⟩⟩)
  exact ⟨.ref l, H, I, rfl, q⟩
theorem op_repL : OpR X (binaryOp .Mult) (rRepL X.K) := by
  intro pins s σ H x y v u Q I rx ry h
  obtain ⟨l, k, xs, rfl, rfl, hL, h0, h1, hz, q⟩ := h
  cases rx
  obtain ⟨t, rfl⟩ := ry
  obtain ⟨its, r, ⟨⟨cls, dd, data, sl⟩, n, ho, hc, hdd, hd⟩, hs⟩ := I.list hL
  simp only at hc hd hdd
  subst hc hd hdd
  have hle : its.length = xs.length := r.length.symm
  have hb : its.length * k.toNat ≤ 1000 * 1000 := Nat.mul_le_mul (by omega) (by omega)
  have hlen : its.toArray.size * k.toNat ≤ sizeLine := by rw [List.size_toArray, sizeLine_eq]; omega
  have hcap : ¬ its.toArray.size * k.toNat > (2 ^ 63 - 1) / 8 := by rw [List.size_toArray]; omega
  have hfit : ¬ (!Builtin.List.listFitsIndex k) = true := by
    rw [fitsIndex_both (by omega) (by omega)]
    exact Bool.false_ne_true
  have hlong : ¬ Builtin.List.listTooLong (its.toArray.size * k.toNat) = true := by
    rw [notLongL hlen]
    exact Bool.false_ne_true
  have hnew : List.foldl (fun x1 x2 => x1 ++ x2) #[] (List.replicate (if its.toArray.isEmpty = true then 0 else k.toNat) its.toArray) = (List.replicate k.toNat its).flatten.toArray := by
    rw [size_rep]
    cases its with
    | nil => simp
    | cons a r' => rw [if_neg (by simp)]
  refine wpAny_binaryOp_repeat_ref (T := "list") (U := "int") (by decide) ⟨_, ho, rfl⟩ (fun s' => typeIs_int s' k t) noFill_list_mul F.fills_int_mul F.slot_int_rmul repeat_list F.slot_int_index.lookup
    (call_meets F.slot_int_rmul (typeIs_int s k t) F.entry_int_rmul (F.args_int_rmul_2 _ _) (int_rmul_listS k t l its.toArray n sl)
      ⟨?_, rfl, ⟨_, ho, rfl⟩, call_meets F.slot_list_mul ⟨_, ho, rfl⟩ F.entry_list_mul (F.args_list_mul_2 _ _) (list_mulS l its.toArray n sl k t hfit hcap hlong) ⟨?_, ?_⟩⟩)
  · exact ho
  · exact ho
  · rw [hnew]
    exact ⟨.ref _, _, I.lnew (t' := s.toks) (r.rep k.toNat) (by rw [PyProof.Rows.lm_len_rep_flat, Nat.mul_comm, ← hle, sizeLine_eq]; omega), rfl, q _ I.fresh⟩
end
end Fw
namespace Fw
open PySem PySem.Spec L2

/-! ### from a datum to what it is on the heap -/
section
variable {K : PySem.W.Frag} {H : Hp} {M : AS}
theorem FL.any {a : Addr} {xs : List V} (h : FL K H M a xs) : SqL K H a xs := h.sq
mutual
theorem Rp.dp : ∀ {v : V} {d : D}, Rp K H M v d → d.canLay0 = true → Dp K H v d
  | _, _, .non, _ => .non
  | _, _, .bl b, _ => .bl b
  | _, _, .int i, _ => .int i
  | _, _, .str x, _ => .str x
  | _, _, .lst h a, c => .lst h.sq (RpAll.dp a (by simpa [PyData.canLay0] using c))
  | _, _, .tup h a, c => .tup h.sq (RpAll.dp a (by simpa [PyData.canLay0] using c))
  | _, _, .dic _ _ _, c => by simp [PyData.canLay0] at c
theorem RpAll.dp : ∀ {v : List V} {d : List D}, RpAll K H M v d → PyData.canLayAll0 d = true → DpAll K H v d
  | _, _, .nil, _ => .nil
  | _, d :: ds, .cons h t, c => by
    have c' : d.canLay0 = true ∧ PyData.canLayAll0 ds = true := by simpa [PyData.canLayAll0] using c
    exact .cons (Rp.dp h c'.1) (RpAll.dp t c'.2)
end
theorem RpT.dp {v : V} {d : D} (h : RpT K H M v d) (c : d.canLay0 = true) : Dp K H v d := by
  cases h with
  | of h => exact h.dp c
  | lst h r => exact .lst (SqL.of h) (r.dp (by simpa [PyData.canLay0] using c))
theorem RpT.list {v : V} {ds : List D} (h : RpT K H M v (.list ds)) : ∃ a xs, v = .ref a ∧ SqL K H a xs ∧ RpAll K H M xs ds := by
  cases h with
  | of h => cases h with | lst h r => exact ⟨_, _, rfl, h.sq, r⟩
  | lst h r => exact ⟨_, _, rfl, SqL.of h, r⟩
theorem RpT.tup {v : V} {ds : List D} (h : RpT K H M v (.tuple ds)) : ∃ a xs, v = .ref a ∧ FT K H M a xs ∧ RpAll K H M xs ds := by
  cases h with
  | of h => cases h with | tup h r => exact ⟨_, _, rfl, h, r⟩
theorem RpT.int {v : V} {i : Int} (h : RpT K H M v (.int i)) : v = .int i := by
  cases h with | of h => cases h; rfl
theorem RpT.bool {v : V} {i : Bool} (h : RpT K H M v (.bool i)) : v = .bl i := by
  cases h with | of h => cases h; rfl
theorem RpT.str {v : V} {i : Str} (h : RpT K H M v (.str i)) : v = .str i := by
  cases h with | of h => cases h; rfl
theorem RpT.none {v : V} (h : RpT K H M v .none) : v = .non := by
  cases h with | of h => cases h; rfl
theorem RpT.dict {v : V} {kvs : List (D × D)} (h : RpT K H M v (.dict kvs)) : ∃ a hk, v = .ref a ∧ Rd H a (.dK hk) ∧ ¬ M a ∧ RpKV K H M hk kvs := by
  cases h with | of h => cases h with | dic h n r => exact ⟨_, _, rfl, h, n, r⟩
/-- none is the value None alone -/
theorem RpT.isNone {v : V} {d : D} (h : RpT K H M v d) : decide (v = .non) = (match d with | .none => true | _ => false) := by
  cases h with
  | of h => cases h <;> simp
  | lst _ _ => simp
/-- a new list -/
theorem new_lst {p : Addr} {xs : List V} {ds : List D} (hM : ∀ a, M a → ¬ Fre H a) (hp : H p = none) (r : RpAll K H M xs ds) : Rp K (upd H p (.lst xs)) M (.ref p) (.list ds) :=
  .lst (.inl ⟨.inl upd_same, fun z => hM p z (.of_none hp)⟩) (r.ext (Same.new hp).ext)
theorem new_tup {p : Addr} {xs : List V} {ds : List D} (hM : ∀ a, M a → ¬ Fre H a) (hp : H p = none) (r : RpAll K H M xs ds) : Rp K (upd H p (.tup xs)) M (.ref p) (.tuple ds) :=
  .tup (.inl ⟨.inl upd_same, fun z => hM p z (.of_none hp)⟩) (r.ext (Same.new hp).ext)
end

/-! ### + of any two lists -/
def rCatL (K : PySem.W.Frag) : R2 := fun x y H Q => ∃ l b xs zs, x = .ref l ∧ y = .ref b ∧ SqL K H l xs ∧ SqL K H b zs ∧ xs.length + zs.length ≤ sizeLine ∧ ∀ p, H p = none → Q (.ref p) (upd H p (.lst (xs ++ zs)))
theorem op_catL {X : Cx} : OpR X (binaryOp .Add) (rCatL X.K) := by
  intro pins s σ H x y v u Q I rx ry h
  obtain ⟨l, b, xs, zs, rfl, rfl, hH, hB, hz, q⟩ := h
  cases rx
  cases ry
  obtain ⟨its, r, hl, _⟩ := I.list hH
  obtain ⟨its2, r2, hl2, _⟩ := I.list hB
  obtain ⟨⟨cls, dd, data, sl⟩, n, ho, hc, hdn, hd⟩ := hl
  obtain ⟨⟨cls2, dd2, data2, sl2⟩, n2, ho2, hc2, hdn2, hd2⟩ := hl2
  simp only at hc hd hc2 hd2
  subst hc hd hc2 hd2
  have e1 := r.length
  have e2 := r2.length
  have e : its.toArray ++ its2.toArray = (its ++ its2).toArray := by simp
  refine concat_meets ⟨_, ho, rfl⟩ ⟨_, ho2, rfl⟩ noFill_list_add seq_list_add PySem.F.slot_list_add PySem.F.entry_list_add (PySem.F.args_list_add_2 _ _) (PyProof.Rows.list_addW l b its.toArray its2.toArray n n2 dd dd2 sl sl2 (by rw [List.size_toArray, List.size_toArray]; omega)) ⟨ho, ho2, ?_⟩
  rw [e]
  exact ⟨.ref _, _, I.lnew (t' := s.toks) (r.append r2) (by rw [List.length_append]; omega), rfl, q _ I.fresh⟩

/-! ### the operators over data -/
def addD : D → D → Option D
  | .int a, .int b => some (.int (a + b))
  | .str a, .str b => if a.length + b.length ≤ sizeLine then some (.str (a ++ b)) else none
  | .tuple a, .tuple b => if a.length + b.length ≤ sizeLine then some (.tuple (a ++ b)) else none
  | .list a, .list b => if a.length + b.length ≤ sizeLine then some (.list (a ++ b)) else none
  | _, _ => none
def subD : D → D → Option D
  | .int a, .int b => some (.int (a - b))
  | _, _ => none
def mulD : D → D → Option D
  | .int a, .int b => if (-(2 ^ 64) < a ∧ a < 2 ^ 64) ∨ (-(2 ^ 64) < b ∧ b < 2 ^ 64) then some (.int (a * b)) else none
  | .tuple a, .int k => if k = 1 then some (.tuple a) else if a ≠ [] ∧ 2 ≤ k ∧ k ≤ 1000 ∧ a.length ≤ 1000 then some (.tuple (List.replicate k.toNat a).flatten) else none
  | .list a, .int k => if 0 ≤ k ∧ k ≤ 1000 ∧ a.length ≤ 1000 then some (.list (List.replicate k.toNat a).flatten) else none
  | _, _ => none
def fdivD : D → D → Option D
  | .int a, .int b => if 0 < b ∧ b < 1073741824 then some (.int (a / b)) else none
  | _, _ => none
def modD : D → D → Option D
  | .int a, .int b => if 0 < b then some (.int (a % b)) else none
  | _, _ => none
def powD : D → D → Option D
  | .int a, .int b => if 0 ≤ b ∧ b ≤ 1000000 ∧ a.natAbs < 2 ^ 64 then some (.int (a ^ b.toNat)) else none
  | _, _ => none
section
variable {X : Cx} {G : Hp → Prop}
def rAddD (K : PySem.W.Frag) : R2 := fun x y H Q => (rI0 fun i j => .int (i + j)) x y H Q ∨ (∃ i j, x = .str i ∧ y = .str j ∧ i.length + j.length ≤ sizeLine ∧ Q (.str (i ++ j)) H) ∨ rCatA K x y H Q ∨ rCatL K x y H Q
theorem op_addD : OpR X (binaryOp .Add) (rAddD X.K) := op_add.or (op_add_str.or (op_catA.or op_catL))
theorem rg_add (g : GOk G) : RG X.K G (rAddD X.K) addD := by
  intro H M x y d d' z Q hG hM rx ry hz q
  unfold addD at hz
  split at hz
  · cases hz
    rw [rx.int, ry.int]
    exact .inl ⟨_, _, rfl, rfl, q _ H (.refl H) hG (.int _)⟩
  · split at hz
    · rename_i h
      cases hz
      rw [rx.str, ry.str]
      exact .inr (.inl ⟨_, _, rfl, rfl, h, q _ H (.refl H) hG (.str _)⟩)
    · cases hz
  · rename_i a b
    split at hz
    · rename_i h
      cases hz
      obtain ⟨p, xs, rfl, h1, r1⟩ := rx.tup
      obtain ⟨p2, ys, rfl, h2, r2⟩ := ry.tup
      have l1 := r1.length
      have l2 := r2.length
      refine .inr (.inr (.inl ⟨p, p2, xs, ys, rfl, rfl, h1.sq, h2.sq, by omega, fun e => ?_, fun n e => ?_, fun n1 n2 t ht => ?_⟩))
      · subst e
        cases r1
        exact q _ H (.refl H) hG (.tup h2 r2)
      · subst e
        cases r2
        rw [List.append_nil] at q
        exact q _ H (.refl H) hG (.tup h1 r1)
      · exact q _ _ (.new ht) (g.new hG ht) (new_tup hM ht (r1.app r2))
    · cases hz
  · split at hz
    · rename_i h
      cases hz
      obtain ⟨p, xs, rfl, h1, r1⟩ := rx.list
      obtain ⟨p2, ys, rfl, h2, r2⟩ := ry.list
      have l1 := r1.length
      have l2 := r2.length
      exact .inr (.inr (.inr ⟨p, p2, xs, ys, rfl, rfl, h1, h2, by omega, fun t ht => q _ _ (.new ht) (g.new hG ht) (new_lst hM ht (r1.app r2))⟩))
    · cases hz
  · cases hz
theorem rg_sub : RG X.K G (rI0 fun i j => .int (i - j)) subD := by
  intro H M x y d d' z Q hG hM rx ry hz q
  unfold subD at hz
  split at hz
  · cases hz
    rw [rx.int, ry.int]
    exact ⟨_, _, rfl, rfl, q _ H (.refl H) hG (.int _)⟩
  · cases hz
def rMulD (K : PySem.W.Frag) : R2 := fun x y H Q => (rI CMul fun i j => .int (i * j)) x y H Q ∨ rRepT K x y H Q ∨ rRepT1 K x y H Q ∨ rRepL K x y H Q
theorem op_mulD : OpR X (binaryOp .Mult) (rMulD X.K) := op_mul.or (op_repT.or (op_repT1.or op_repL))
theorem rg_mul (g : GOk G) : RG X.K G (rMulD X.K) mulD := by
  intro H M x y d d' z Q hG hM rx ry hz q
  unfold mulD at hz
  split at hz
  · split at hz
    · rename_i h
      cases hz
      rw [rx.int, ry.int]
      exact .inl ⟨_, _, rfl, rfl, h, q _ H (.refl H) hG (.int _)⟩
    · cases hz
  · split at hz
    · rename_i h
      cases hz
      subst h
      obtain ⟨p, xs, rfl, h1, r1⟩ := rx.tup
      rw [ry.int]
      exact .inr (.inr (.inl ⟨p, xs, rfl, rfl, h1.sq, q _ H (.refl H) hG (.tup h1 r1)⟩))
    split at hz
    · rename_i h
      cases hz
      obtain ⟨p, xs, rfl, h1, r1⟩ := rx.tup
      rw [ry.int]
      have l1 := r1.length
      obtain ⟨n1, n2, n3, n4⟩ := h
      refine .inr (.inl ⟨p, _, xs, rfl, rfl, h1.sq, fun e => n1 (by subst e; cases r1; rfl), n2, n3, by omega, fun t ht => q _ _ (.new ht) (g.new hG ht) (new_tup hM ht (r1.rep _))⟩)
    · cases hz
  · split at hz
    · rename_i h
      cases hz
      obtain ⟨p, xs, rfl, h1, r1⟩ := rx.list
      rw [ry.int]
      have l1 := r1.length
      obtain ⟨n1, n2, n3⟩ := h
      refine .inr (.inr (.inr ⟨p, _, xs, rfl, rfl, h1, n1, n2, by omega, fun t ht => q _ _ (.new ht) (g.new hG ht) (new_lst hM ht (r1.rep _))⟩))
    · cases hz
  · cases hz
theorem rg_fdiv : RG X.K G (rI CDiv fun i j => .int (i / j)) fdivD := by
  intro H M x y d d' z Q hG hM rx ry hz q
  unfold fdivD at hz
  split at hz
  · split at hz
    · rename_i h
      cases hz
      rw [rx.int, ry.int]
      exact ⟨_, _, rfl, rfl, h, q _ H (.refl H) hG (.int _)⟩
    · cases hz
  · cases hz
theorem rg_mod : RG X.K G (rI (fun _ j => 0 < j) fun i j => .int (i % j)) modD := by
  intro H M x y d d' z Q hG hM rx ry hz q
  unfold modD at hz
  split at hz
  · split at hz
    · rename_i h
      cases hz
      rw [rx.int, ry.int]
      exact ⟨_, _, rfl, rfl, h, q _ H (.refl H) hG (.int _)⟩
    · cases hz
  · cases hz
theorem rg_pow : RG X.K G (rI CPow fun i j => .int (i ^ j.toNat)) powD := by
  intro H M x y d d' z Q hG hM rx ry hz q
  unfold powD at hz
  split at hz
  · split at hz
    · rename_i h
      cases hz
      rw [rx.int, ry.int]
      exact ⟨_, _, rfl, rfl, h, q _ H (.refl H) hG (.int _)⟩
    · cases hz
  · cases hz
end

/-! ### comparisons over data -/
def okPair (d d' : D) : Bool := d.canLay0 && d'.canLay0 && (decide (d.depth ≤ 64) || decide (d'.depth ≤ 64))
def eqD (d d' : D) : Option D := if okPair d d' = true then some (.bool (PyData.eqv d d')) else none
def neD (d d' : D) : Option D := if okPair d d' = true then some (.bool (!PyData.eqv d d')) else none
def ltD : D → D → Option D
  | .int a, .int b => some (.bool (decide (a < b)))
  | _, _ => none
def leD : D → D → Option D
  | .int a, .int b => some (.bool (decide (a ≤ b)))
  | _, _ => none
def gtD : D → D → Option D
  | .int a, .int b => some (.bool (decide (b < a)))
  | _, _ => none
def geD : D → D → Option D
  | .int a, .int b => some (.bool (decide (b ≤ a)))
  | _, _ => none
def isNoneD : D → Bool
  | .none => true
  | _ => false
/-- is: with None on the right, or of two bools -/
def isD : D → D → Option D
  | d, .none => some (.bool (isNoneD d))
  | .bool a, .bool b => some (.bool (decide (a = b)))
  | _, _ => none
def isNotD : D → D → Option D
  | d, .none => some (.bool (!isNoneD d))
  | .bool a, .bool b => some (.bool (!decide (a = b)))
  | _, _ => none
/-- in a list or a tuple -/
def inD : D → D → Option D
  | d, .list xs => if okPair d (.list xs) = true then some (.bool (xs.any fun x => PyData.eqv x d)) else none
  | d, .tuple xs => if okPair d (.tuple xs) = true then some (.bool (xs.any fun x => PyData.eqv x d)) else none
  | _, _ => none
def notInD : D → D → Option D
  | d, .list xs => if okPair d (.list xs) = true then some (.bool (!xs.any fun x => PyData.eqv x d)) else none
  | d, .tuple xs => if okPair d (.tuple xs) = true then some (.bool (!xs.any fun x => PyData.eqv x d)) else none
  | _, _ => none
theorem okPair_iff {d d' : D} (h : okPair d d' = true) : d.canLay0 = true ∧ d'.canLay0 = true ∧ min d.depth d'.depth ≤ 64 := by
  simp only [okPair, Bool.and_eq_true, Bool.or_eq_true, decide_eq_true_eq] at h
  obtain ⟨⟨h1, h2⟩, h3⟩ := h
  refine ⟨h1, h2, ?_⟩
  rcases h3 with h3 | h3
  · exact Nat.le_trans (Nat.min_le_left _ _) h3
  · exact Nat.le_trans (Nat.min_le_right _ _) h3
section
variable {X : Cx} {G : Hp → Prop}
def rEqM (K : PySem.W.Frag) : R2 := fun x y H Q => ∃ d e, Dp K H x d ∧ Dp K H y e ∧ okPair d e = true ∧ Q (.bl (PyData.eqv d e)) H
def rNeM (K : PySem.W.Frag) : R2 := fun x y H Q => ∃ d e, Dp K H x d ∧ Dp K H y e ∧ okPair d e = true ∧ Q (.bl (!PyData.eqv d e)) H
theorem op_eqM (hu : X.A.units + 64 < cLine) : OpR X (compareOp .Eq) (rEqM X.K) := by
  intro pins s σ H x y v u Q I rx ry h
  obtain ⟨d, e, hd, he, ok, q⟩ := h
  obtain ⟨as, r1⟩ := Dp.reads I d x v hd rx
  obtain ⟨bs, r2⟩ := Dp.reads I e y u he ry
  obtain ⟨h1, h2, h3⟩ := okPair_iff ok
  exact SeqAt.compareEq_reads r1 r2 h1 h2 (by omega) ⟨.bl _, H, I, rfl, q⟩
theorem op_neM (hu : X.A.units + 64 < cLine) : OpR X (compareOp .NotEq) (rNeM X.K) := by
  intro pins s σ H x y v u Q I rx ry h
  obtain ⟨d, e, hd, he, ok, q⟩ := h
  obtain ⟨as, r1⟩ := Dp.reads I d x v hd rx
  obtain ⟨bs, r2⟩ := Dp.reads I e y u he ry
  obtain ⟨h1, h2, h3⟩ := okPair_iff ok
  exact SeqAt.compareNe_reads r1 r2 h1 h2 (by omega) ⟨.bl _, H, I, rfl, q⟩
theorem rg_eq : RG X.K G (rEqM X.K) eqD := by
  intro H M x y d d' z Q hG hM rx ry hz q
  unfold eqD at hz
  split at hz
  · rename_i h
    cases hz
    obtain ⟨h1, h2, _⟩ := okPair_iff h
    exact ⟨_, _, rx.dp h1, ry.dp h2, h, q _ H (.refl H) hG (.bl _)⟩
  · cases hz
theorem rg_ne : RG X.K G (rNeM X.K) neD := by
  intro H M x y d d' z Q hG hM rx ry hz q
  unfold neD at hz
  split at hz
  · rename_i h
    cases hz
    obtain ⟨h1, h2, _⟩ := okPair_iff h
    exact ⟨_, _, rx.dp h1, ry.dp h2, h, q _ H (.refl H) hG (.bl _)⟩
  · cases hz
theorem rg_lt : RG X.K G (rI0 fun i j => .bl (decide (i < j))) ltD := by
  intro H M x y d d' z Q hG hM rx ry hz q
  unfold ltD at hz
  split at hz
  · cases hz; rw [rx.int, ry.int]; exact ⟨_, _, rfl, rfl, q _ H (.refl H) hG (.bl _)⟩
  · cases hz
theorem rg_le : RG X.K G (rI0 fun i j => .bl (decide (i ≤ j))) leD := by
  intro H M x y d d' z Q hG hM rx ry hz q
  unfold leD at hz
  split at hz
  · cases hz; rw [rx.int, ry.int]; exact ⟨_, _, rfl, rfl, q _ H (.refl H) hG (.bl _)⟩
  · cases hz
theorem rg_gt : RG X.K G (rI0 fun i j => .bl (decide (j < i))) gtD := by
  intro H M x y d d' z Q hG hM rx ry hz q
  unfold gtD at hz
  split at hz
  · cases hz; rw [rx.int, ry.int]; exact ⟨_, _, rfl, rfl, q _ H (.refl H) hG (.bl _)⟩
  · cases hz
theorem rg_ge : RG X.K G (rI0 fun i j => .bl (decide (j ≤ i))) geD := by
  intro H M x y d d' z Q hG hM rx ry hz q
  unfold geD at hz
  split at hz
  · cases hz; rw [rx.int, ry.int]; exact ⟨_, _, rfl, rfl, q _ H (.refl H) hG (.bl _)⟩
  · cases hz
def rIsM : R2 := fun x y H Q => (y = .non ∧ Q (.bl (decide (x = .non))) H) ∨ rIsB x y H Q
def rIsNotM : R2 := fun x y H Q => (y = .non ∧ Q (.bl (!decide (x = .non))) H) ∨ rNotB x y H Q
theorem op_isM : OpR X (compareOp .Is) rIsM := op_isN.or op_isBl
theorem op_isNotM : OpR X (compareOp .IsNot) rIsNotM := op_notN.or op_notBl
theorem RpT.noneB {K : PySem.W.Frag} {H : Hp} {M : AS} {v : V} {d : D} (h : RpT K H M v d) : decide (v = .non) = isNoneD d := by
  cases h with
  | of h => cases h <;> simp [isNoneD]
  | lst _ _ => simp [isNoneD]
theorem rg_is : RG X.K G rIsM isD := by
  intro H M x y d d' z Q hG hM rx ry hz q
  unfold isD at hz
  split at hz
  · cases hz
    rw [ry.none]
    refine .inl ⟨rfl, ?_⟩
    rw [rx.noneB]
    exact q _ H (.refl H) hG (.bl _)
  · cases hz
    rw [rx.bool, ry.bool]
    exact .inr ⟨_, _, rfl, rfl, q _ H (.refl H) hG (.bl _)⟩
  · cases hz
theorem rg_isNot : RG X.K G rIsNotM isNotD := by
  intro H M x y d d' z Q hG hM rx ry hz q
  unfold isNotD at hz
  split at hz
  · cases hz
    rw [ry.none]
    refine .inl ⟨rfl, ?_⟩
    rw [rx.noneB]
    exact q _ H (.refl H) hG (.bl _)
  · cases hz
    rw [rx.bool, ry.bool]
    exact .inr ⟨_, _, rfl, rfl, q _ H (.refl H) hG (.bl _)⟩
  · cases hz
def rInM (K : PySem.W.Frag) : R2 := fun x y H Q => ∃ d xs c, Dp K H x d ∧ Dp K H y c ∧ (c = .list xs ∨ c = .tuple xs) ∧ okPair d c = true ∧ Q (.bl (xs.any fun x => PyData.eqv x d)) H
def rNotInM (K : PySem.W.Frag) : R2 := fun x y H Q => ∃ d xs c, Dp K H x d ∧ Dp K H y c ∧ (c = .list xs ∨ c = .tuple xs) ∧ okPair d c = true ∧ Q (.bl (!xs.any fun x => PyData.eqv x d)) H
theorem in_room {A : Around} {d c : D} {xs : List D} (hu : A.units + 65 < cLine) (hc : c = .list xs ∨ c = .tuple xs) (ok : okPair d c = true) : PyData.canLayAll0 xs = true ∧ d.canLay0 = true ∧ A.units + 1 + min (PyData.depthAll xs) d.depth < cLine := by
  obtain ⟨h1, h2, h3⟩ := okPair_iff ok
  rcases hc with rfl | rfl
  · have h2' : PyData.canLayAll0 xs = true := by simpa [PyData.canLay0] using h2
    have : PyData.depth (.list xs) = PyData.depthAll xs + 1 := by simp [PyData.depth]
    exact ⟨h2', h1, by omega⟩
  · have h2' : PyData.canLayAll0 xs = true := by simpa [PyData.canLay0] using h2
    have : PyData.depth (.tuple xs) = PyData.depthAll xs + 1 := by simp [PyData.depth]
    exact ⟨h2', h1, by omega⟩
theorem op_inM (hu : X.A.units + 65 < cLine) : OpR X (compareOp .In) (rInM X.K) := by
  intro pins s σ H x y v u Q I rx ry h
  obtain ⟨d, xs, c, hd, he, hc, ok, q⟩ := h
  obtain ⟨as, r1⟩ := Dp.reads I d x v hd rx
  obtain ⟨bs, r2⟩ := Dp.reads I c y u he ry
  obtain ⟨h1, h2, h3⟩ := in_room hu hc ok
  rcases hc with rfl | rfl
  · exact SeqAt.in_list_reads r2 r1 h1 h2 h3 ⟨.bl _, H, I, rfl, q⟩
  · exact SeqAt.in_tuple_reads r2 r1 h1 h2 h3 ⟨.bl _, H, I, rfl, q⟩
theorem op_notInM (hu : X.A.units + 65 < cLine) : OpR X (compareOp .NotIn) (rNotInM X.K) := by
  intro pins s σ H x y v u Q I rx ry h
  obtain ⟨d, xs, c, hd, he, hc, ok, q⟩ := h
  obtain ⟨as, r1⟩ := Dp.reads I d x v hd rx
  obtain ⟨bs, r2⟩ := Dp.reads I c y u he ry
  obtain ⟨h1, h2, h3⟩ := in_room hu hc ok
  rcases hc with rfl | rfl
  · exact SeqAt.notIn_list_reads r2 r1 h1 h2 h3 ⟨.bl _, H, I, rfl, q⟩
  · exact SeqAt.notIn_tuple_reads r2 r1 h1 h2 h3 ⟨.bl _, H, I, rfl, q⟩
theorem rg_in : RG X.K G (rInM X.K) inD := by
  intro H M x y d d' z Q hG hM rx ry hz q
  unfold inD at hz
  split at hz
  · split at hz
    · rename_i h
      cases hz
      obtain ⟨h1, h2, _⟩ := okPair_iff h
      exact ⟨_, _, _, rx.dp h1, ry.dp h2, .inl rfl, h, q _ H (.refl H) hG (.bl _)⟩
    · cases hz
  · split at hz
    · rename_i h
      cases hz
      obtain ⟨h1, h2, _⟩ := okPair_iff h
      exact ⟨_, _, _, rx.dp h1, ry.dp h2, .inr rfl, h, q _ H (.refl H) hG (.bl _)⟩
    · cases hz
  · cases hz
theorem rg_notIn : RG X.K G (rNotInM X.K) notInD := by
  intro H M x y d d' z Q hG hM rx ry hz q
  unfold notInD at hz
  split at hz
  · split at hz
    · rename_i h
      cases hz
      obtain ⟨h1, h2, _⟩ := okPair_iff h
      exact ⟨_, _, _, rx.dp h1, ry.dp h2, .inl rfl, h, q _ H (.refl H) hG (.bl _)⟩
    · cases hz
  · split at hz
    · rename_i h
      cases hz
      obtain ⟨h1, h2, _⟩ := okPair_iff h
      exact ⟨_, _, _, rx.dp h1, ry.dp h2, .inr rfl, h, q _ H (.refl H) hG (.bl _)⟩
    · cases hz
  · cases hz
end

/-! ### items, slices -/
def ixD : D → D → Option D
  | .list xs, .int i => atI xs i
  | .tuple xs, .int i => atI xs i
  | .str z, .int i => if z.length ≤ sizeLine then (atI z.cps.toList i).map fun c => .str ⟨#[c]⟩ else none
  | _, _ => none
section
variable {X : Cx} {G : Hp → Prop} {K : PySem.W.Frag} {H : Hp} {M : AS}
theorem RpAll.atI {vs : List V} {ds : List D} {i : Int} {d : D} (h : RpAll K H M vs ds) (e : atI ds i = some d) : ∃ v, L2.atI vs i = some v ∧ Rp K H M v d := by
  unfold L2.atI at e ⊢
  rw [h.length]
  cases q : ixN ds.length i with
  | none => rw [q] at e; cases e
  | some j =>
    rw [q] at e
    exact h.get e
theorem rg_ix : RG X.K G (rIx X.K) ixD := by
  intro H M x y d d' z Q hG hM rx ry hz q
  unfold ixD at hz
  split at hz
  · obtain ⟨p, xs, rfl, h1, r1⟩ := rx.list
    rw [ry.int]
    obtain ⟨v, e, r⟩ := r1.atI hz
    exact .inl ⟨p, xs, _, v, rfl, rfl, h1, e, q v H (.refl H) hG r⟩
  · obtain ⟨p, xs, rfl, h1, r1⟩ := rx.tup
    rw [ry.int]
    obtain ⟨v, e, r⟩ := r1.atI hz
    exact .inr (.inl ⟨p, xs, _, v, rfl, rfl, h1.sq, e, q v H (.refl H) hG r⟩)
  · rw [rx.str, ry.int]
    split at hz
    · rename_i hl
      obtain ⟨c, e, rfl⟩ := Option.map_eq_some_iff.mp hz
      exact .inr (.inr ⟨_, _, c, rfl, rfl, hl, e, q _ H (.refl H) hG (.str _)⟩)
    · cases hz
  · cases hz
/-- xs[lo:hi] -/
def cutD (xs : List D) (lo hi : Option Int) : List D := (xs.drop (HT.sIx xs.length 0 lo)).take (HT.sIx xs.length xs.length hi - HT.sIx xs.length 0 lo)
def slD : D → Option Int → Option Int → Option D
  | .list xs, lo, hi => some (.list (cutD xs lo hi))
  | .tuple xs, lo, hi => some (.tuple (cutD xs lo hi))
  | .str z, lo, hi => if z.length ≤ sizeLine then some (.str (cutS z lo hi)) else none
  | _, _, _ => none
theorem RpAll.cut {vs : List V} {ds : List D} (h : RpAll K H M vs ds) (lo hi : Option Int) : RpAll K H M (cutV vs lo hi) (cutD ds lo hi) := by
  unfold cutV cutD
  rw [h.length]
  exact (h.drop _).take _
def rSlD (K : PySem.W.Frag) : V → Option Int → Option Int → Hp → VK → Prop := fun x lo hi H Q => rSlL K x lo hi H Q ∨ rSlA K x lo hi H Q ∨ ∃ z, x = .str z ∧ z.length ≤ sizeLine ∧ Q (.str (cutS z lo hi)) H
theorem sl_D {X : Cx} : SlR X (rSlD X.K) := sl_list.or (sl_tupA.or sl_str)
/-- the rule for slices gives what slD says -/
theorem rg_sl {X : Cx} (g : GOk G) {x : V} {d z : D} {lo hi : Option Int} {Q : VK} (hG : G H) (hM : ∀ a, M a → ¬ Fre H a) (rx : RpT X.K H M x d) (hz : slD d lo hi = some z)
    (q : ∀ v H', Same H H' → G H' → Rp X.K H' M v z → Q v H') : rSlD X.K x lo hi H Q := by
  unfold slD at hz
  split at hz
  · cases hz
    obtain ⟨p, xs, rfl, h1, r1⟩ := rx.list
    exact .inl ⟨p, xs, rfl, h1, fun t ht => q _ _ (.new ht) (g.new hG ht) (new_lst hM ht (r1.cut lo hi))⟩
  · cases hz
    obtain ⟨p, xs, rfl, h1, r1⟩ := rx.tup
    refine .inr (.inl ⟨p, xs, rfl, h1.sq, fun ⟨e1, e2⟩ => ?_, fun _ t ht => q _ _ (.new ht) (g.new hG ht) (new_tup hM ht (r1.cut lo hi))⟩)
    have r2 := r1.cut lo hi
    have e3 : cutV xs lo hi = xs := by
      unfold cutV
      rw [e1, e2, List.drop_zero, Nat.sub_zero, List.take_length]
    rw [e3] at r2
    exact q _ H (.refl H) hG (.tup h1 r2)
  · split at hz
    · rename_i hl
      cases hz
      rw [rx.str]
      exact .inr (.inr ⟨_, rfl, hl, q _ H (.refl H) hG (.str _)⟩)
    · cases hz
  · cases hz
end
end Fw
namespace Fw
open PySem PySem.Spec PyProof.Rows L2 HT
section
variable {prog : Program} {w : World} {A : Around} {E : Value → Shared → Prop} {s : Shared}
theorem sliceApplied_rev {sl : Addr} {vl vu vs : Value} {n : Nat} {Q : Int × Int × Nat → Shared → Prop} (hs : s.heap.IsSliceOf sl vl vu vs) (pl : IsPart vl none) (pu : IsPart vu none) (ps : IsPart vs (some (-1)))
    (h : Q ((n : Int) - 1, -1, n) s) : wpAny (model prog w) A (Builtin.Slice.sliceApplied (.ref sl) (pure (n : Int))) Q E s := by
  obtain ⟨os, hos, hcs, hds⟩ := id hs
  unfold Builtin.Slice.sliceApplied Builtin.Slice.sliceFields
  refine wpAny_bind (wpAny_bind (wpAny_field hos hds (x := vl) rfl (wpAny_bind (wpAny_field hos hds (x := vu) rfl (wpAny_bind (wpAny_field hos hds (x := vs) rfl (wpAny_pure ?_)))))))
  refine wpAny_bind (slicePart_ ps ?_)
  show wpAny _ _ (if ((-1 : Int) == 0) = true then _ else _) _ _ s
  rw [if_neg (by decide)]
  refine wpAny_bind (slicePart_ pl (wpAny_bind (slicePart_ pu (wpAny_bind (wpAny_pure ?_)))))
  have e : Builtin.Slice.slicePlaces ((n : Int) - 1) (-1) (-1) = n := by
    unfold Builtin.Slice.slicePlaces
    have h1 : ¬ ((-1 : Int) > 0) := by decide
    simp only [h1, if_false]
    by_cases hn : (n : Int) - 1 > -1
    · rw [if_pos hn]
      have : ((n : Int) - 1 - -1 - 1) / (- -1) + 1 = n := by
        rw [show (- -1 : Int) = 1 by decide, Int.ediv_one]; omega
      rw [this]; rfl
    · rw [if_neg hn]; omega
  show wpAny _ _ (pure ((n : Int) - 1, (-1 : Int), Builtin.Slice.slicePlaces ((n : Int) - 1) (-1) (-1))) _ _ s
  rw [e]
  exact wpAny_pure h
theorem fm_congr {α β : Type} {f g : α → Option β} : ∀ {l : List α}, (∀ k ∈ l, f k = g k) → l.filterMap f = l.filterMap g
  | [], _ => rfl
  | a :: l, h => by rw [List.filterMap_cons, List.filterMap_cons, h a (by simp), fm_congr fun k hk => h k (by simp [hk])]
theorem pick_rev (xs : Array Value) : ((List.range xs.size).filterMap fun (m : Nat) => xs[((xs.size : Int) - 1 + (m : Int) * -1).toNat]?).toArray = xs.toList.reverse.toArray := by
  have e : ((List.range xs.size).filterMap fun (m : Nat) => xs[((xs.size : Int) - 1 + (m : Int) * -1).toNat]?) = ((List.range xs.size).map fun k => xs.size - 1 - k).filterMap (xs[·]?) := by
    rw [List.filterMap_map]
    refine fm_congr fun k hk => ?_
    have := List.mem_range.mp hk
    have e2 : ((xs.size : Int) - 1 + (k : Int) * -1).toNat = xs.size - 1 - k := by omega
    rw [e2]; rfl
  rw [e, PySem.W.krv_range, List.filterMap_reverse, PySem.W.krv_all]
theorem getItem_tuple_rev {t sl : Addr} {items : Array Value} {vl vu vs : Value} {Q : Value → Shared → Prop} (ht : IsTup s.heap t items) (hs : s.heap.IsSliceOf sl vl vu vs) (pl : IsPart vl none) (pu : IsPart vu none) (ps : IsPart vs (some (-1)))
    (h : Q (.ref s.heap.objs.size) { s with heap := s.heap.push { cls := .type "tuple", data := .seq items.toList.reverse.toArray } })
    (hsz : items.size ≤ sizeLine) : wpAny (model prog w) A (getItem (.ref t) (.ref sl)) Q E s := by
  have htake : sizeOk (.seq items.toList.reverse.toArray) := by
    show items.toList.reverse.toArray.size ≤ sizeLine
    rw [List.size_toArray, List.length_reverse, Array.length_toList]
    exact hsz
  obtain ⟨os, hos, hcs, hds⟩ := id hs
  have hTs : s.TypeIs (.ref sl) "slice" := ⟨os, hos, hcs⟩
  unfold getItem
  try with_reducible refine wpAny_holding ?_
  first | refine wpAny_bind (wpAny_pure ?_) | skip
  refine wpAny_bind (wpAny_sequenceKey ht.typeIs (by decide) ?_)
  refine wpAny_bind (wpAny_callSpecial?_slot (name := Str.ofString "__getitem__") ht.typeIs PyProof.Rows.slot_tuple_getitem
    (wpAny_call_entry PyProof.Rows.slot_tuple_getitem ht.typeIs entry_tuple_getitem ?_ (args_tuple_getitem _ _)))
  show wpAny _ _ (Builtin.Tuple.tupleItemsOf (.ref t) >>= _) _ _ s
  refine wpAny_bind (tupleItemsOf_ ht ?_)
  refine wpAny_bind (wpAny_typeOf hTs ?_)
  rw [if_pos (by decide)]
  refine wpAny_bind (sliceApplied_rev hs pl pu ps ?_)
  have hno : ¬ ((((items.size : Int) - 1) == 0 && (-1 : Int) == 1 && items.size == items.size) = true) := by
    intro q
    rw [Bool.and_eq_true, Bool.and_eq_true] at q
    exact absurd q.1.2 (by decide)
  show wpAny _ _ (if (((items.size : Int) - 1) == 0 && (-1 : Int) == 1 && items.size == items.size) = true then _ else _) _ _ s
  rw [if_neg hno, pick_rev]
  first
    | exact wpAny_bind (m := Builtin.Tuple.tupleExact _) (wpAny_newObj_type (wpAny_pure ⟨_, rfl, wpAny_pure h⟩) htake)
    | exact wpAny_bind (m := Builtin.Tuple.tupleExact _) (wpAny_newObj_type (wpAny_bind (wpAny_pure (wpAny_pure ⟨_, rfl, wpAny_pure h⟩))) htake)
    | exact wpAny_bind (wpAny_bind (m := Builtin.Tuple.tupleExact _) (wpAny_newObj_type (wpAny_pure (wpAny_pure ⟨_, rfl, wpAny_pure h⟩)) htake))
    | exact wpAny_bind (wpAny_bind (m := Builtin.Tuple.tupleExact _) (wpAny_newObj_type (wpAny_pure ⟨_, rfl, wpAny_pure h⟩) htake))
end
/-- xs[::-1] of a list or a tuple -/
def rRevD (K : PySem.W.Frag) : V → Hp → VK → Prop := fun x H Q => (∃ a xs, x = .ref a ∧ SqL K H a xs ∧ ∀ p, H p = none → Q (.ref p) (upd H p (.lst xs.reverse))) ∨ ∃ a xs, x = .ref a ∧ SqT K H a xs ∧ ∀ p, H p = none → Q (.ref p) (upd H p (.tup xs.reverse))
theorem pe_revD {X : Cx} {e : Expr} {te : TE} {k : Nat} {p1 p2 p3 pos : Pos} (he : PE X e te) : PE X (.Subscript e (.Slice none none (some (.UnaryOp .USub (.Constant (.int 1) k p1) p2)) p3) pos) (fun σ H Q => te σ H fun x H1 => rRevD X.K x H1 Q) := by
  refine ⟨fun pins s σ H Q I h => ?_⟩
  refine Subscript_ (thn (he.run pins s σ H _ I h) fun v s1 ⟨x, H1, I1, r1, q1⟩ => ?_)
  have hst : PO X (some (.UnaryOp .USub (.Constant (.int 1) k p1) p2)) (tPart (tUn (rU fun i => .int (-i)) (tC (.int 1)))) := po_some (pe_un un_neg pe_int)
  refine wpAny_Slice (thn (po_none.run pins s1 σ H1 (fun o H2 => o = none ∧ H2 = H1) I1 ⟨rfl, rfl⟩) fun vl s2 ⟨l, H2, I2, pl, el, e2⟩ => ?_)
  subst el e2
  refine thn (po_none.run pins s2 σ H2 (fun o H3 => o = none ∧ H3 = H2) I2 ⟨rfl, rfl⟩) fun vu s3 ⟨u, H3, I3, pu, eu, e3⟩ => ?_
  subst eu e3
  refine thn (hst.run pins s3 σ H3 (fun o H4 => o = some (-1) ∧ H4 = H3) I3 ⟨1, rfl, -1, rfl, rfl, rfl⟩) fun vs s4 ⟨o, H4, I4, ps, eo, e4⟩ => ?_
  subst eo e4
  have I5 : Inv X pins σ H4 { s4 with heap := s4.heap.push { cls := .type "slice", data := .fields #[vl, vu, vs] } } := I4.kept (t' := s4.toks) fun b ob q => Heap.get?_push_of_some _ q
  rcases q1 with ⟨a, xs, ex, hx, q⟩ | ⟨a, xs, ex, hx, q⟩
  · subst ex
    cases r1
    obtain ⟨its, r, ht, hz⟩ := I5.list hx
    have hlen := r.length
    show wpAny (model X.prog X.w) X.A (subscriptTail e (.Slice none none (some (.UnaryOp .USub (.Constant (.int 1) k p1) p2)) p3) (.ref a) (.ref s4.heap.objs.size)) (EP X pins σ Q) X.xe { s4 with heap := s4.heap.push { cls := .type "slice", data := .fields #[vl, vu, vs] } }
    refine tail_any (ops := [.ref a, .ref s4.heap.objs.size]) ht.isList.typeIs (PySem.slot_list_getitem.lookup) ?_ (by with_unfolding_all rfl)
    refine wpAny_getItem_list_slice ht.isList (Heap.IsSliceOf.new _ vl vu vs) pl pu ps (by decide) ?_ (by rw [List.size_toArray]; omega)
    rw [PySem.W.krv_pick]
    refine ⟨.ref _, _, I5.laid (t' := s4.toks) (o := .lst xs.reverse) (fun b ob q => Heap.get?_push_of_some _ q) (Nat.le_refl _) ?_, rfl, q _ (I5.hok.fresh (Nat.le_refl _))⟩
    exact ⟨by rw [List.length_reverse]; exact hz, _, 0, r.reverse, Heap.get?_push_size _ rfl⟩
  · subst ex
    cases r1
    obtain ⟨its, r, ht, hz⟩ := I5.tuple hx
    have hlen := r.length
    show wpAny (model X.prog X.w) X.A (subscriptTail e (.Slice none none (some (.UnaryOp .USub (.Constant (.int 1) k p1) p2)) p3) (.ref a) (.ref s4.heap.objs.size)) (EP X pins σ Q) X.xe { s4 with heap := s4.heap.push { cls := .type "slice", data := .fields #[vl, vu, vs] } }
    refine tail_any (ops := [.ref a, .ref s4.heap.objs.size]) ht.typeIs (PyProof.Rows.slot_tuple_getitem.lookup) ?_ (by with_unfolding_all rfl)
    refine getItem_tuple_rev ht (Heap.IsSliceOf.new _ vl vu vs) pl pu ps ?_ (by rw [List.size_toArray]; omega)
    refine ⟨.ref _, _, I5.laid (t' := s4.toks) (o := .tup xs.reverse) (fun b ob q => Heap.get?_push_of_some _ q) (Nat.le_refl _) ?_, rfl, q _ (I5.hok.fresh (Nat.le_refl _))⟩
    exact ⟨by rw [List.length_reverse]; exact hz, _, r.reverse, ⟨_, Heap.get?_push_size _ rfl, rfl, 0, rfl⟩⟩
end Fw
namespace Fw
open PySem PySem.Spec L2

section
variable {X : Cx} {κ : Kt} {W : WX} {pos : Pos} {a b c : Expr} {fa fb fc : En → EOut Ref}
/-! ### comparisons, truth -/
def dOp (g : D → D → Option D) (fa fb : En → EOut Ref) : En → EOut Ref := fun e => (fa e).bind fun x e1 => (fb e1).bind fun y e2 => rdK x e2 fun d => rdK y e2 fun d' => okD (g d d') e2
theorem op_step {r : R2} {g : D → D → Option D} (hr : RG X.K κ.G r g) {σ : St} {H : Hp} {Q : VK} (h : tE X.K κ W (dOp g fa fb) σ H Q) : tOp r (tE X.K κ W fa) (tE X.K κ W fb) σ H Q := by
  obtain ⟨e, R, h⟩ := h
  refine ⟨e, R, (sat_bind h).mono (fun x e1 h v H1 s1 r1 => ⟨e1, s1.rel, (sat_bind h).mono (fun y e2 h w H2 s2 r2 => ?_) fun c e' h => h.from s1⟩) fun c e' h => h⟩
  obtain ⟨d, q1, h⟩ := sat_rd h
  obtain ⟨d', q2, h⟩ := sat_rd h
  obtain ⟨z, q3, h⟩ := sat_okD h
  exact hr H2 (AO κ σ e2) v w d d' z Q s2.rel.g (fun _ z => AO.notFre s2.rel z) ((r1.step s2).rd s2.rel q1) (r2.rd s2.rel q2) q3 fun u H3 sm g3 rz => h u H3 ((s1.trans s2).trans (.same s2.rel sm g3)) rz
theorem ev_op {op : Operator} {r : R2} {g : D → D → Option D} (ho : OpR X (binaryOp op) r) (hr : RG X.K κ.G r g) (ha : PE X a (tE X.K κ W fa)) (hb : PE X b (tE X.K κ W fb)) : PE X (.BinOp a op b pos) (tE X.K κ W (dOp g fa fb)) :=
  pe_imp (pe_op ho ha hb) fun _ _ _ h => op_step hr h
theorem ev_cmp {op : CmpOp} {r : R2} {g : D → D → Option D} (ho : OpR X (compareOp op) r) (hr : RG X.K κ.G r g) (ha : PE X a (tE X.K κ W fa)) (hb : PE X b (tE X.K κ W fb)) (hm : behindInMarks op b = false) : PE X (.Compare a [op] [b] pos) (tE X.K κ W (dOp g fa fb)) :=
  pe_imp (pe_cmpR ho ha hb hm) fun _ _ _ h => op_step hr h
/-- from the value's reading to the test's -/
theorem rp_bl {K : PySem.W.Frag} {H : Hp} {M : AS} {v : V} {b : Bool} (h : Rp K H M v (.bool b)) : v = .bl b := by cases h; rfl
def isB (g : D → D → Option D) : Prop := ∀ d d' z, g d d' = some z → ∃ b, z = .bool b
theorem tT_tE {K : PySem.W.Frag} {f : En → EOut Ref} {σ : St} {H : Hp} {Q : Bool → Hp → Prop} (h : tT K κ W f σ H Q) :
    ∃ e, Rel K κ σ H e ∧ sat (f e) (fun r e' => ∃ d b, r.rd e' = some d ∧ truthD d = some b ∧ ∀ H', Step K κ σ H e σ H' e' → Q b H') (PX K κ W σ H e) := h
theorem op_stepT {r : R2} {g : D → D → Option D} (hb : isB g) (hr : RG X.K κ.G r g) {σ : St} {H : Hp} {Q : Bool → Hp → Prop} (h : tT X.K κ W (dOp g fa fb) σ H Q) : tTest (tOp r (tE X.K κ W fa) (tE X.K κ W fb)) σ H Q := by
  obtain ⟨e, R, h⟩ := h
  refine ⟨e, R, (sat_bind h).mono (fun x e1 h v H1 s1 r1 => ⟨e1, s1.rel, (sat_bind h).mono (fun y e2 h w H2 s2 r2 => ?_) fun c e' h => h.from s1⟩) fun c e' h => h⟩
  obtain ⟨d, q1, h⟩ := sat_rd h
  obtain ⟨d', q2, h⟩ := sat_rd h
  obtain ⟨z, q3, dz, bz, q4, q5, h⟩ := sat_okD h
  cases q4
  obtain ⟨bb, rfl⟩ := hb _ _ _ q3
  cases q5
  exact hr H2 (AO κ σ e2) v w d d' _ _ s2.rel.g (fun _ z => AO.notFre s2.rel z) ((r1.step s2).rd s2.rel q1) (r2.rd s2.rel q2) q3 fun u H3 sm g3 rz => ⟨_, rp_bl rz, h H3 ((s1.trans s2).trans (.same s2.rel sm g3))⟩
theorem et_cmp {op : CmpOp} {r : R2} {g : D → D → Option D} (hbl : isB g) (ho : OpR X (compareOp op) r) (hr : RG X.K κ.G r g) (ha : PE X a (tE X.K κ W fa)) (hb : PE X b (tE X.K κ W fb)) (hm : behindInMarks op b = false) : PT X (.Compare a [op] [b] pos) (tT X.K κ W (dOp g fa fb)) :=
  pt_imp (pt_cmpR ho ha hb hm) fun _ _ _ h => op_stepT hbl hr h
theorem isB_of {p : D → D → Bool} {f : D → D → Bool} : isB (fun d d' => if p d d' = true then some (.bool (f d d')) else none) := fun d d' z h => by
  dsimp only at h
  split at h
  · cases h; exact ⟨_, rfl⟩
  · cases h
theorem isB_eq : isB eqD := fun d d' z h => by unfold eqD at h; split at h <;> cases h; exact ⟨_, rfl⟩
theorem isB_ne : isB neD := fun d d' z h => by unfold neD at h; split at h <;> cases h; exact ⟨_, rfl⟩
theorem isB_lt : isB ltD := fun d d' z h => by unfold ltD at h; split at h <;> cases h; exact ⟨_, rfl⟩
theorem isB_le : isB leD := fun d d' z h => by unfold leD at h; split at h <;> cases h; exact ⟨_, rfl⟩
theorem isB_gt : isB gtD := fun d d' z h => by unfold gtD at h; split at h <;> cases h; exact ⟨_, rfl⟩
theorem isB_ge : isB geD := fun d d' z h => by unfold geD at h; split at h <;> cases h; exact ⟨_, rfl⟩
theorem isB_is : isB isD := fun d d' z h => by unfold isD at h; split at h <;> cases h <;> exact ⟨_, rfl⟩
theorem isB_isNot : isB isNotD := fun d d' z h => by unfold isNotD at h; split at h <;> cases h <;> exact ⟨_, rfl⟩
theorem isB_in : isB inD := fun d d' z h => by unfold inD at h; split at h <;> (try split at h) <;> cases h <;> exact ⟨_, rfl⟩
theorem isB_notIn : isB notInD := fun d d' z h => by unfold notInD at h; split at h <;> (try split at h) <;> cases h <;> exact ⟨_, rfl⟩

theorem RpKV.isEmpty {K : PySem.W.Frag} {H : Hp} {M : AS} {hk : List (Key × V)} {kvs : List (D × D)} (h : RpKV K H M hk kvs) : kvs.isEmpty = hk.isEmpty := by cases h <;> rfl
theorem RpAll.isEmpty {K : PySem.W.Frag} {H : Hp} {M : AS} {vs : List V} {ds : List D} (h : RpAll K H M vs ds) : ds.isEmpty = vs.isEmpty := by cases h <;> rfl
theorem truV_of {K : PySem.W.Frag} {H : Hp} {M : AS} {v : V} {d : D} {k : Bool} (h : RpT K H M v d) (e : truthD d = some k) : TruV K v H k := by
  unfold truthD at e
  split at e
  · cases e; rw [h.none]; rfl
  · cases e; rw [h.bool]; rfl
  · cases e; rw [h.int]; rfl
  · rw [h.str]
    split at e
    · rename_i hl; cases e; exact ⟨hl, rfl⟩
    · cases e
  · cases e
    obtain ⟨p, xs, rfl, h1, r1⟩ := h.list
    exact .inl ⟨xs, h1, by rw [r1.isEmpty]⟩
  · cases e
    obtain ⟨p, xs, rfl, h1, r1⟩ := h.tup
    exact .inr (.inl ⟨xs, h1.sq, by rw [r1.isEmpty]⟩)
  · cases e
/-- a value as a test, by its truth -/
theorem et_truth (ha : PE X a (tE X.K κ W fa)) (he : ∀ whole, isTrue a X.env whole = (do let v ← whole; standAt a.pos; holding [v] (truthy v))) : PT X a (tT X.K κ W fa) := by
  refine pt_imp (pt_truth ha he) fun σ H Q ⟨e, R, h⟩ => ⟨e, R, h.mono (fun r e' ⟨d, b, q1, q2, h⟩ v H' s r => ?_) fun c e' h => h⟩
  exact ⟨b, truV_of (r.rd s.rel q1) q2, h H' s⟩

/-! ### not, and, or, if .. else -/
def dNot (fa : En → EOut Ref) : En → EOut Ref := fun e => (fa e).bind fun r e1 => truK r e1 fun b => .ok (.imm (.bool (!b))) e1
theorem ev_not (ha : PE X a (tE X.K κ W fa)) : PE X (.UnaryOp .Not a pos) (tE X.K κ W (dNot fa)) := by
  refine pe_imp (pe_notT ha) fun σ H Q ⟨e, R, h⟩ => ⟨e, R, (sat_bind h).mono (fun r e' h v H' s rr => ?_) fun c e' h => h⟩
  obtain ⟨d, b, q1, q2, h⟩ := sat_tru h
  exact ⟨b, truV_of (rr.rd s.rel q1) q2, h _ H' s (.bl _)⟩
theorem et_not (ha : PT X a (tT X.K κ W fa)) : PT X (.UnaryOp .Not a pos) (tT X.K κ W (dNot fa)) := by
  refine pt_imp (pt_not ha) fun σ H Q ⟨e, R, h⟩ => ⟨e, R, (sat_bind h).mono (fun r e' h => ?_) fun c e' h => h⟩
  obtain ⟨d, b, q1, q2, d', b', q3, q4, h⟩ := sat_tru h
  cases q3; cases q4
  exact ⟨d, b, q1, q2, h⟩
/-- a and b; a or b (stop: the truth at which the first is handed on) -/
def dBool (stop : Bool) (fa fb : En → EOut Ref) : En → EOut Ref := fun e => (fa e).bind fun r e1 => truK r e1 fun b => if b = stop then (match r with
  | .imm d => .ok (.imm d) e1
  | .slot _ => .bad) else fb e1
theorem ev_and {rest : List Expr} {p2 : Pos} (ha : PE X a (tE X.K κ W fa)) (hb : PE X (.BoolOp .And (b :: rest) pos) (tE X.K κ W fb)) : PE X (.BoolOp .And (a :: b :: rest) pos) (tE X.K κ W (dBool false fa fb)) := by
  refine pe_imp (pe_andT ha hb) fun σ H Q ⟨e, R, h⟩ => ⟨e, R, (sat_bind h).mono (fun r e' h v H' s rr => ?_) fun c e' h => h⟩
  obtain ⟨d, b, q1, q2, h⟩ := sat_tru h
  refine ⟨b, truV_of (rr.rd s.rel q1) q2, ?_⟩
  cases b with
  | true =>
    rw [if_neg (by decide)] at h
    exact iteT ⟨e', s.rel, h.mono (fun r2 e2 h w H2 s2 r3 => h w H2 (s.trans s2) r3) fun c e2 h => h.from s⟩
  | false =>
    rw [if_pos rfl] at h
    refine iteF ?_
    cases r with
    | imm d => exact h v H' s rr
    | slot i => exact h.elim
theorem ev_or {rest : List Expr} (ha : PE X a (tE X.K κ W fa)) (hb : PE X (.BoolOp .Or (b :: rest) pos) (tE X.K κ W fb)) : PE X (.BoolOp .Or (a :: b :: rest) pos) (tE X.K κ W (dBool true fa fb)) := by
  refine pe_imp (pe_orT ha hb) fun σ H Q ⟨e, R, h⟩ => ⟨e, R, (sat_bind h).mono (fun r e' h v H' s rr => ?_) fun c e' h => h⟩
  obtain ⟨d, b, q1, q2, h⟩ := sat_tru h
  refine ⟨b, truV_of (rr.rd s.rel q1) q2, ?_⟩
  cases b with
  | true =>
    rw [if_pos rfl] at h
    refine iteT ?_
    cases r with
    | imm d => exact h v H' s rr
    | slot i => exact h.elim
  | false =>
    rw [if_neg (by decide)] at h
    exact iteF ⟨e', s.rel, h.mono (fun r2 e2 h w H2 s2 r3 => h w H2 (s.trans s2) r3) fun c e2 h => h.from s⟩
theorem ev_one {op : BoolOp} (ha : PE X a (tE X.K κ W fa)) : PE X (.BoolOp op [a] pos) (tE X.K κ W fa) := pe_one ha
theorem ew_and {rest : List Expr} (ha : PT X a (tT X.K κ W fa)) (hb : PW X (.BoolOp .And (b :: rest) pos) (tT X.K κ W fb)) : PW X (.BoolOp .And (a :: b :: rest) pos) (tT X.K κ W (dBool false fa fb)) := by
  refine pw_imp (pw_and ha hb) fun σ H Q ⟨e, R, h⟩ => ⟨e, R, (sat_bind h).mono (fun r e' h => ?_) fun c e' h => h⟩
  obtain ⟨d, b, q1, q2, h⟩ := sat_tru h
  refine ⟨d, b, q1, q2, fun H' s => ?_⟩
  cases b with
  | true =>
    rw [if_neg (by decide)] at h
    exact iteT ⟨e', s.rel, h.mono (fun r2 e2 ⟨d2, b2, k1, k2, h⟩ => ⟨d2, b2, k1, k2, fun H2 s2 => h H2 (s.trans s2)⟩) fun c e2 h => h.from s⟩
  | false =>
    rw [if_pos rfl] at h
    refine iteF ?_
    cases r with
    | imm d =>
      obtain ⟨d2, b2, k1, k2, h⟩ := h
      cases q1; cases k1
      rw [q2] at k2; cases k2
      exact h H' s
    | slot i => exact h.elim
theorem ew_or {rest : List Expr} (ha : PT X a (tT X.K κ W fa)) (hb : PW X (.BoolOp .Or (b :: rest) pos) (tT X.K κ W fb)) : PW X (.BoolOp .Or (a :: b :: rest) pos) (tT X.K κ W (dBool true fa fb)) := by
  refine pw_imp (pw_or ha hb) fun σ H Q ⟨e, R, h⟩ => ⟨e, R, (sat_bind h).mono (fun r e' h => ?_) fun c e' h => h⟩
  obtain ⟨d, b, q1, q2, h⟩ := sat_tru h
  refine ⟨d, b, q1, q2, fun H' s => ?_⟩
  cases b with
  | true =>
    rw [if_pos rfl] at h
    refine iteT ?_
    cases r with
    | imm d =>
      obtain ⟨d2, b2, k1, k2, h⟩ := h
      cases q1; cases k1
      rw [q2] at k2; cases k2
      exact h H' s
    | slot i => exact h.elim
  | false =>
    rw [if_neg (by decide)] at h
    exact iteF ⟨e', s.rel, h.mono (fun r2 e2 ⟨d2, b2, k1, k2, h⟩ => ⟨d2, b2, k1, k2, fun H2 s2 => h H2 (s.trans s2)⟩) fun c e2 h => h.from s⟩
theorem ew_and1 (ha : PT X a (tT X.K κ W fa)) : PW X (.BoolOp .And [a] pos) (tT X.K κ W fa) := pw_and1 ha
theorem ew_or1 (ha : PT X a (tT X.K κ W fa)) : PW X (.BoolOp .Or [a] pos) (tT X.K κ W fa) := pw_or1 ha
def dIf (fc fa fb : En → EOut Ref) : En → EOut Ref := fun e => (fc e).bind fun r e1 => truK r e1 fun b => bif b then fa e1 else fb e1
theorem ev_ifExp (hc : PT X c (tT X.K κ W fc)) (ha : PE X a (tE X.K κ W fa)) (hb : PE X b (tE X.K κ W fb)) : PE X (.IfExp c a b pos) (tE X.K κ W (dIf fc fa fb)) := by
  refine pe_imp (pe_ifExp hc ha hb) fun σ H Q ⟨e, R, h⟩ => ⟨e, R, (sat_bind h).mono (fun r e' h => ?_) fun c e' h => h⟩
  obtain ⟨d, b, q1, q2, h⟩ := sat_tru h
  refine ⟨d, b, q1, q2, fun H' s => ?_⟩
  cases b with
  | true => exact iteT ⟨e', s.rel, h.mono (fun r2 e2 h w H2 s2 r3 => h w H2 (s.trans s2) r3) fun c e2 h => h.from s⟩
  | false => exact iteF ⟨e', s.rel, h.mono (fun r2 e2 h w H2 s2 r3 => h w H2 (s.trans s2) r3) fun c e2 h => h.from s⟩

/-! ### a op b op c -/
def dChain (g g' : D → D → Option D) (fa fb fc : En → EOut Ref) : En → EOut Ref := fun e => (fa e).bind fun x e1 => (fb e1).bind fun y e2 => rdK x e2 fun d => rdK y e2 fun d' => optK (g d d') e2 fun z => match z with
  | .bool true => (fc e2).bind fun w e3 => rdK y e3 fun d2 => rdK w e3 fun d3 => okD (g' d2 d3) e3
  | .bool false => .ok (.imm (.bool false)) e2
  | _ => .bad
theorem chain_step {r r' : R2} {g g' : D → D → Option D} (hbl : isB g) (hr : RG X.K κ.G r g) (hr' : RG X.K κ.G r' g') {σ : St} {H : Hp} {Q : VK} (h : tE X.K κ W (dChain g g' fa fb fc) σ H Q) :
    tChain r r' (tE X.K κ W fa) (tE X.K κ W fb) (tE X.K κ W fc) σ H Q := by
  obtain ⟨e, R, h⟩ := h
  refine ⟨e, R, (sat_bind h).mono (fun x e1 h v H1 s1 r1 => ⟨e1, s1.rel, (sat_bind h).mono (fun y e2 h w H2 s2 r2 => ?_) fun c e' h => h.from s1⟩) fun c e' h => h⟩
  obtain ⟨d, q1, h⟩ := sat_rd h
  obtain ⟨d', q2, h⟩ := sat_rd h
  obtain ⟨z, q3, h⟩ := sat_opt h
  obtain ⟨b, rfl⟩ := hbl _ _ _ q3
  refine hr H2 (AO κ σ e2) v w d d' _ _ s2.rel.g (fun _ z => AO.notFre s2.rel z) ((r1.step s2).rd s2.rel q1) (r2.rd s2.rel q2) q3 fun u H3 sm g3 rz => ⟨b, rp_bl rz, ?_⟩
  have s3 : Step X.K κ σ H2 e2 σ H3 e2 := .same s2.rel sm g3
  cases b with
  | false => exact iteF (h _ H3 ((s1.trans s2).trans s3) (.bl _))
  | true =>
    refine iteT ⟨e2, s3.rel, (sat_bind h).mono (fun t e3 h k H4 s4 r4 => ?_) fun c e' h => h.from ((s1.trans s2).trans s3)⟩
    obtain ⟨d2, k1, h⟩ := sat_rd h
    obtain ⟨d3, k2, h⟩ := sat_rd h
    obtain ⟨z', k3, h⟩ := sat_okD h
    exact hr' H4 (AO κ σ e3) w k d2 d3 _ _ s4.rel.g (fun _ z => AO.notFre s4.rel z) ((r2.step (s3.trans s4)).rd s4.rel k1) (r4.rd s4.rel k2) k3 fun u' H5 sm5 g5 rz' => h u' H5 ((((s1.trans s2).trans s3).trans s4).trans (.same s4.rel sm5 g5)) rz'
/-- a bool comes of it -/
def Bl (f : En → EOut Ref) : Prop := ∀ e, sat (f e) (fun r _ => ∃ b, r = .imm (.bool b)) (fun _ _ => True) ∨ f e = .bad
theorem tE_of_tT {K : PySem.W.Frag} {f : En → EOut Ref} (hb : Bl f) {σ : St} {H : Hp} {Q : Bool → Hp → Prop} (h : tT K κ W f σ H Q) : tE K κ W f σ H (fun x H' => ∃ k, x = .bl k ∧ Q k H') := by
  obtain ⟨e, R, h⟩ := h
  refine ⟨e, R, ?_⟩
  have q := hb e
  cases z : f e with
  | bad => rw [z] at h; exact h
  | exc c e' => rw [z] at h; exact h
  | ok r e' =>
    rw [z] at h q
    obtain ⟨d, b, k1, k2, h⟩ := h
    rcases q with ⟨b', q⟩ | q
    · subst q
      cases k1; cases k2
      exact fun v H' s rr => ⟨_, rp_bl rr, h H' s⟩
    · cases q
theorem sat_or {α : Type} {P : α → En → Prop} {x : EOut α} (h : ∀ a e, x = .ok a e → P a e) : sat x P (fun _ _ => True) ∨ x = .bad := by
  cases x with
  | ok a e => exact .inl (h a e rfl)
  | exc c e => exact .inl trivial
  | bad => exact .inr rfl
theorem bind_ok_inv {α β : Type} {x : EOut α} {f : α → En → EOut β} {b : β} {e : En} (h : x.bind f = .ok b e) : ∃ a e1, x = .ok a e1 ∧ f a e1 = .ok b e := by
  cases x with
  | ok a e1 => exact ⟨a, e1, rfl, h⟩
  | exc c e1 => cases h
  | bad => cases h
theorem rdK_ok_inv {β : Type} {r : Ref} {e e' : En} {k : D → EOut β} {b : β} (h : rdK r e k = .ok b e') : ∃ d, r.rd e = some d ∧ k d = .ok b e' := by
  unfold rdK at h
  cases q : r.rd e with
  | none => rw [q] at h; cases h
  | some d => rw [q] at h; exact ⟨d, rfl, h⟩
theorem okD_ok_inv {o : Option D} {e e' : En} {r : Ref} (h : okD o e = .ok r e') : ∃ d, o = some d ∧ r = .imm d := by
  cases o with
  | none => cases h
  | some d => cases h; exact ⟨d, rfl, rfl⟩
theorem bl_chain {g g' : D → D → Option D} (hb : isB g') : Bl (dChain g g' fa fb fc) := fun e => sat_or fun r e' h => by
  unfold dChain at h
  obtain ⟨x, e1, _, h⟩ := bind_ok_inv h
  obtain ⟨y, e2, _, h⟩ := bind_ok_inv h
  obtain ⟨d, _, h⟩ := rdK_ok_inv h
  obtain ⟨d', _, h⟩ := rdK_ok_inv h
  cases q : g d d' with
  | none => rw [q] at h; cases h
  | some z =>
    rw [q] at h
    rw [optK_some] at h
    split at h
    · obtain ⟨w, e3, _, h⟩ := bind_ok_inv h
      obtain ⟨d2, _, h⟩ := rdK_ok_inv h
      obtain ⟨d3, _, h⟩ := rdK_ok_inv h
      obtain ⟨z', q', rfl⟩ := okD_ok_inv h
      obtain ⟨b, rfl⟩ := hb _ _ _ q'
      exact ⟨b, rfl⟩
    · cases h; exact ⟨false, rfl⟩
    · cases h
theorem ev_chain {op op' : CmpOp} {r r' : R2} {g g' : D → D → Option D} (hbl : isB g) (ho : OpR X (compareOp op) r) (ho' : OpR X (compareOp op') r') (hr : RG X.K κ.G r g) (hr' : RG X.K κ.G r' g')
    (ha : PE X a (tE X.K κ W fa)) (hb : PE X b (tE X.K κ W fb)) (hc : PE X c (tE X.K κ W fc)) (hm : lastMarks [op, op'] [b, c] = false) : PE X (.Compare a [op, op'] [b, c] pos) (tE X.K κ W (dChain g g' fa fb fc)) :=
  pe_imp (pe_chain ho ho' ha hb hc hm) fun _ _ _ h => chain_step hbl hr hr' h
theorem et_chain {op op' : CmpOp} {r r' : R2} {g g' : D → D → Option D} (hbl : isB g) (hbl' : isB g') (ho : OpR X (compareOp op) r) (ho' : OpR X (compareOp op') r') (hr : RG X.K κ.G r g) (hr' : RG X.K κ.G r' g')
    (ha : PE X a (tE X.K κ W fa)) (hb : PE X b (tE X.K κ W fb)) (hc : PE X c (tE X.K κ W fc)) (hm : lastMarks [op, op'] [b, c] = false) : PT X (.Compare a [op, op'] [b, c] pos) (tT X.K κ W (dChain g g' fa fb fc)) := by
  exact pt_imp (pt_chain ho ho' ha hb hc hm) fun σ H Q h => chain_step hbl hr hr' (tE_of_tT (bl_chain hbl') h)

/-! ### displays -/
def dNil : En → EOut (List Ref) := fun e => .ok [] e
def dCons (fa : En → EOut Ref) (fl : En → EOut (List Ref)) : En → EOut (List Ref) := fun e => (fa e).bind fun r e1 => (fl e1).bind fun rs e2 => .ok (r :: rs) e2
theorem ea_nil : PA X [] (tL X.K κ W dNil) := pa_imp pa_nil fun σ H Q ⟨e, R, h⟩ => h [] H (.refl R) rfl
theorem ea_cons {es : List Expr} {fl : En → EOut (List Ref)} (ha : PE X a (tE X.K κ W fa)) (hr : PA X es (tL X.K κ W fl)) (hs : starEach (a :: es) X.env = (false, eval a X.env) :: starEach es X.env) : PA X (a :: es) (tL X.K κ W (dCons fa fl)) := by
  refine pa_imp (pa_cons ha hr hs) fun σ H Q ⟨e, R, h⟩ => ⟨e, R, (sat_bind h).mono (fun r e1 h v H1 s1 r1 => ⟨e1, s1.rel, (sat_bind h).mono (fun rs e2 h vs H2 s2 r2 => ?_) fun c e' h => h.from s1⟩) fun c e' h => h⟩
  exact h (v :: vs) H2 (s1.trans s2) ⟨v, vs, rfl, r1.step s2, r2⟩
/-- all are values -/
def imms : List Ref → Option (List D)
  | [] => some []
  | .imm d :: r => (imms r).map (d :: ·)
  | .slot _ :: _ => none
theorem imms_rp {K : PySem.W.Frag} {σ : St} {H : Hp} {e : En} : ∀ {rs : List Ref} {vs : List V} {ds : List D}, RpRs K κ σ H e rs vs → imms rs = some ds → RpAll K H (AO κ σ e) vs ds
  | [], _, _, h, q => by cases q; cases h; exact .nil
  | .imm d :: r, _, _, ⟨v, vr, h1, h2, h3⟩, q => by
    obtain ⟨ds, q1, rfl⟩ := Option.map_eq_some_iff.mp q
    subst h1
    exact .cons h2 (imms_rp h3 q1)
  | .slot i :: r, _, _, _, q => by cases q
def immK {β : Type} (rs : List Ref) (k : List D → EOut β) : EOut β := match imms rs with
  | some ds => k ds
  | none => .bad
theorem sat_imm {β : Type} {rs : List Ref} {k : List D → EOut β} {P : β → En → Prop} {E : Nat → En → Prop} (h : sat (immK rs k) P E) : ∃ ds, imms rs = some ds ∧ sat (k ds) P E := by
  unfold immK at h
  cases q : imms rs with
  | none => rw [q] at h; exact h.elim
  | some d => rw [q] at h; exact ⟨d, rfl, h⟩
def dTup (fl : En → EOut (List Ref)) : En → EOut Ref := fun e => (fl e).bind fun rs e1 => immK rs fun ds => if ds.length ≤ sizeLine then .ok (.imm (.tuple ds)) e1 else .bad
def dLst (fl : En → EOut (List Ref)) : En → EOut Ref := fun e => (fl e).bind fun rs e1 => immK rs fun ds => if ds.length ≤ sizeLine then .ok (.imm (.list ds)) e1 else .bad
theorem sat_if {α : Type} {c : Prop} [Decidable c] {x : EOut α} {P : α → En → Prop} {E : Nat → En → Prop} (h : sat (if c then x else .bad) P E) : c ∧ sat x P E := by
  by_cases q : c
  · rw [if_pos q] at h; exact ⟨q, h⟩
  · rw [if_neg q] at h; exact h.elim
theorem ev_tup (g : GOk κ.G) {es : List Expr} {k : Nat} {fl : En → EOut (List Ref)} (h : PA X es (tL X.K κ W fl)) : PE X (.Tuple es k pos) (tE X.K κ W (dTup fl)) := by
  refine pe_imp (pe_tup h) fun σ H Q ⟨e, R, h⟩ => ⟨e, R, (sat_bind h).mono (fun rs e1 h vs H1 s1 r1 => ?_) fun c e' h => h⟩
  obtain ⟨ds, q1, h⟩ := sat_imm h
  obtain ⟨q2, h⟩ := sat_if h
  have ra := imms_rp r1 q1
  refine ⟨by rw [ra.length]; exact q2, fun p hp => h _ _ (s1.trans (.same s1.rel (.new hp) (g.new s1.rel.g hp))) (new_tup (fun _ z => AO.notFre s1.rel z) hp ra)⟩
theorem ev_lst (g : GOk κ.G) {es : List Expr} {fl : En → EOut (List Ref)} (h : PA X es (tL X.K κ W fl)) : PE X (.List es pos) (tE X.K κ W (dLst fl)) := by
  refine pe_imp (pe_lst h) fun σ H Q ⟨e, R, h⟩ => ⟨e, R, (sat_bind h).mono (fun rs e1 h vs H1 s1 r1 => ?_) fun c e' h => h⟩
  obtain ⟨ds, q1, h⟩ := sat_imm h
  obtain ⟨q2, h⟩ := sat_if h
  have ra := imms_rp r1 q1
  refine ⟨by rw [ra.length]; exact q2, fun p hp => h _ _ (s1.trans (.same s1.rel (.new hp) (g.new s1.rel.g hp))) (new_lst (fun _ z => AO.notFre s1.rel z) hp ra)⟩

/-! ### items, slices, one-place operators -/
theorem ev_ix (ha : PE X a (tE X.K κ W fa)) (hb : PE X b (tE X.K κ W fb)) (hs : PlainIx b) : PE X (.Subscript a b pos) (tE X.K κ W (dOp ixD fa fb)) :=
  pe_imp (pe_ix ix_seq ha hb hs) fun _ _ _ h => op_step rg_ix h
/-- a part of a slice -/
def dPart (f : Option (En → EOut Ref)) : En → EOut (Option Int) := fun e => match f with
  | none => .ok none e
  | some f => (f e).bind fun r e1 => rdK r e1 fun d => match d with
    | .int i => .ok (some i) e1
    | _ => .bad
def tO (K : PySem.W.Frag) (κ : Kt) (W : WX) (f : En → EOut (Option Int)) : TO := fun σ H Q => ∃ e, Rel K κ σ H e ∧
  sat (f e) (fun o e' => ∀ H', Step K κ σ H e σ H' e' → Q o H') (PX K κ W σ H e)
theorem eo_none : PO X none (tO X.K κ W (dPart none)) := by
  have h := po_none (X := X)
  exact ⟨fun pins s σ H Q I ⟨e, R, q⟩ => h.run pins s σ H Q I (q H (.refl R))⟩
theorem eo_some (ha : PE X a (tE X.K κ W fa)) : PO X (some a) (tO X.K κ W (dPart (some fa))) := by
  have h := po_some ha
  refine ⟨fun pins s σ H Q I ⟨e, R, q⟩ => h.run pins s σ H Q I ⟨e, R, (sat_bind q).mono (fun r e1 q v H1 s1 r1 => ?_) fun c e' h => h⟩⟩
  obtain ⟨d, q1, q⟩ := sat_rd q
  have rd := r1.rd s1.rel q1
  cases d with
  | int i => exact ⟨i, rd.int, q H1 s1⟩
  | _ => exact q.elim
def dSl (fa : En → EOut Ref) (fl fh : En → EOut (Option Int)) : En → EOut Ref := fun e => (fa e).bind fun r e1 => (fl e1).bind fun lo e2 => (fh e2).bind fun hi e3 => rdK r e3 fun d => okD (slD d lo hi) e3
theorem ev_slice (g : GOk κ.G) {lo hi : Option Expr} {fl fh : En → EOut (Option Int)} {p2 : Pos} (ha : PE X a (tE X.K κ W fa)) (hl : PO X lo (tO X.K κ W fl)) (hh : PO X hi (tO X.K κ W fh)) : PE X (.Subscript a (.Slice lo hi none p2) pos) (tE X.K κ W (dSl fa fl fh)) := by
  refine pe_imp (pe_slice sl_D ha hl hh) fun σ H Q ⟨e, R, h⟩ => ⟨e, R, (sat_bind h).mono (fun r e1 h v H1 s1 r1 => ⟨e1, s1.rel, (sat_bind h).mono (fun l e2 h H2 s2 => ⟨e2, s2.rel, (sat_bind h).mono (fun u e3 h H3 s3 => ?_) fun c e' h => h.from (s1.trans s2)⟩) fun c e' h => h.from s1⟩) fun c e' h => h⟩
  obtain ⟨d, q1, h⟩ := sat_rd h
  obtain ⟨z, q2, h⟩ := sat_okD h
  exact rg_sl g s3.rel.g (fun _ z => AO.notFre s3.rel z) ((r1.step (s2.trans s3)).rd s3.rel q1) q2 fun w H4 sm g4 rz => h w H4 (((s1.trans s2).trans s3).trans (.same s3.rel sm g4)) rz
def negD : D → Option D
  | .int i => some (.int (-i))
  | _ => none
def dUn (g : D → Option D) (fa : En → EOut Ref) : En → EOut Ref := fun e => (fa e).bind fun r e1 => rdK r e1 fun d => okD (g d) e1
theorem ev_neg (ha : PE X a (tE X.K κ W fa)) : PE X (.UnaryOp .USub a pos) (tE X.K κ W (dUn negD fa)) := by
  refine pe_imp (pe_un un_neg ha) fun σ H Q ⟨e, R, h⟩ => ⟨e, R, (sat_bind h).mono (fun r e1 h v H1 s1 r1 => ?_) fun c e' h => h⟩
  obtain ⟨d, q1, h⟩ := sat_rd h
  obtain ⟨z, q2, h⟩ := sat_okD h
  have rd := r1.rd s1.rel q1
  cases d with
  | int i => cases q2; exact ⟨i, rd.int, h _ H1 s1 (.int _)⟩
  | _ => cases q2
/-- xs[::-1] of a list, a tuple -/
def revD : D → Option D
  | .list xs => some (.list xs.reverse)
  | .tuple xs => some (.tuple xs.reverse)
  | _ => none
theorem ev_revL (g : GOk κ.G) {k : Nat} {p1 p2 p3 : Pos} (ha : PE X a (tE X.K κ W fa)) : PE X (.Subscript a (.Slice none none (some (.UnaryOp .USub (.Constant (.int 1) k p1) p2)) p3) pos) (tE X.K κ W (dUn revD fa)) := by
  refine pe_imp (pe_revD ha) fun σ H Q ⟨e, R, h⟩ => ⟨e, R, (sat_bind h).mono (fun x e1 h v H1 s1 r1 => ?_) fun c e' h => h⟩
  obtain ⟨d, q1, h⟩ := sat_rd h
  obtain ⟨z, q3, h⟩ := sat_okD h
  have rr := r1.rd s1.rel q1
  cases d with
  | list xs =>
    cases q3
    obtain ⟨a, vs, rfl, sq, ra⟩ := rr.list
    exact .inl ⟨a, vs, rfl, sq, fun p hp => h _ _ (s1.trans (.same s1.rel (.new hp) (g.new s1.rel.g hp))) (new_lst (fun _ z => AO.notFre s1.rel z) hp ra.rev)⟩
  | tuple xs =>
    cases q3
    obtain ⟨a, vs, rfl, ft, ra⟩ := rr.tup
    exact .inr ⟨a, vs, rfl, ft.sq, fun p hp => h _ _ (s1.trans (.same s1.rel (.new hp) (g.new s1.rel.g hp))) (new_tup (fun _ z => AO.notFre s1.rel z) hp ra.rev)⟩
  | _ => cases q3
end
end Fw
namespace Fw
open PySem PySem.Spec L2

/-! ### what a def is worth -/
inductive RV where
  | d (x : D)
  /-- a new list that nobody else holds -/
  | own (xs : List D)
/-- a call's end: what is handed back; what its own-list arguments hold behind it, by place -/
inductive FOut where
  | ret (r : RV) (outs : List (List D))
  | exc (c : Nat) (outs : List (List D))
  | bad
abbrev FnDen := List SV → FOut
def mix : List SV → List (List D) → List SV
  | [], _ => []
  | s :: r, [] => s :: r
  | .own p _ :: r, y :: ys => .own p y :: mix r ys
  | .d x :: r, _ :: ys => .d x :: mix r ys
abbrev Kt.plus (κ : Kt) (a : Addr) : Kt := { κ with A := fun b => κ.A b ∨ b = a }
theorem mix_length : ∀ (s : List SV) (y : List (List D)), (mix s y).length = s.length
  | [], _ => rfl
  | _ :: _, [] => rfl
  | .own p _ :: r, y :: ys => congrArg (· + 1) (mix_length r ys)
  | .d x :: r, _ :: ys => congrArg (· + 1) (mix_length r ys)
theorem mix_d : ∀ {s : List SV} {y : List (List D)} {i : Nat} {x : D}, (mix s y)[i]? = some (.d x) ↔ s[i]? = some (.d x)
  | [], _, _, _ => by simp [mix]
  | _ :: _, [], _, _ => by simp [mix]
  | .own p _ :: r, y :: ys, 0, x => by simp [mix]
  | .d z :: r, y :: ys, 0, x => by simp [mix]
  | .own p _ :: r, y :: ys, i + 1, x => by simpa [mix] using mix_d (s := r) (y := ys) (i := i) (x := x)
  | .d z :: r, y :: ys, i + 1, x => by simpa [mix] using mix_d (s := r) (y := ys) (i := i) (x := x)
theorem mix_own : ∀ {s : List SV} {y : List (List D)} {i : Nat} {p : Bool}, (∃ xs, (mix s y)[i]? = some (.own p xs)) ↔ ∃ xs, s[i]? = some (.own p xs)
  | [], _, _, _ => by simp [mix]
  | _ :: _, [], _, _ => by simp [mix]
  | .own p _ :: r, y :: ys, 0, x => by simp [mix]
  | .d z :: r, y :: ys, 0, x => by simp [mix]
  | .own p _ :: r, y :: ys, i + 1, x => by simpa [mix] using mix_own (s := r) (y := ys) (i := i) (p := x)
  | .d z :: r, y :: ys, i + 1, x => by simpa [mix] using mix_own (s := r) (y := ys) (i := i) (p := x)

/-- from the call's entry: own lists are the arguments' alone; behind it -/
def RpV (K : PySem.W.Frag) (κ : Kt) (σ : St) (H : Hp) (σ' : St) (H' : Hp) (e' : En) : RV → V → Prop
  | .d x, v => Rp K H' (AO κ σ' e') v x
  | .own xs, v => ∃ a ws, v = .ref a ∧ Fre H a ∧ H' a = some (.lst ws) ∧ Rel K (κ.plus a) σ' H' e' ∧ RpAll K H' (AO (κ.plus a) σ' e') ws xs
def fsat (x : FOut) (P : RV → List (List D) → Prop) (E : Nat → List (List D) → Prop) : Prop := match x with
  | .ret r o => P r o
  | .exc c o => E c o
  | .bad => False
abbrev sm (vs : List V) : St := vs.map some
abbrev em (as : List SV) : En := as.map some
/-- the promise that a plain function makes -/
def spOf (K : PySem.W.Frag) (G : Hp → Prop) (ec : Nat → Addr) (n : Nat) (F : FnDen) : Sp := fun vs H Q E => vs.length = n ∧ ∃ (A : AS) (args : List SV), Rel K ⟨A, G, ec⟩ (sm vs) H (em args) ∧ (∀ (i : Nat) (p : Bool) (xs : List D), args[i]? = some (.own p xs) → p = true) ∧
  fsat (F args) (fun rv o => ∀ v H', Step K ⟨A, G, ec⟩ (sm vs) H (em args) (sm vs) H' (em (mix args o)) → RpV K ⟨A, G, ec⟩ (sm vs) H (sm vs) H' (em (mix args o)) rv v → Q v H')
    (fun c o => ∀ od H', dxOk c od → Step K ⟨A, G, ec⟩ (sm vs) H (em args) (sm vs) H' (em (mix args o)) → E (.ref (ec c)) od H')

/-! ### the arguments of a call -/
def svOf (e : En) : Ref → Option SV
  | .imm d => some (.d d)
  | .slot i => match e[i]? with
    | some (some (.d x)) => some (.d x)
    | some (some (.own _ xs)) => some (.own true xs)
    | _ => none
def svsOf (e : En) : List Ref → Option (List SV)
  | [] => some []
  | r :: rs => (svOf e r).bind fun s => (svsOf e rs).map (s :: ·)
/-- no slot twice -/
def distinct : List Ref → Bool
  | [] => true
  | .slot i :: r => r.all (fun x => match x with | .slot j => i != j | .imm _ => true) && distinct r
  | .imm _ :: r => distinct r
/-- the slot's own list changed -/
def put1 (e : En) (i : Nat) (ys : List D) : En := match e[i]? with
  | some (some (.own p _)) => e.set i (some (.own p ys))
  | _ => e
theorem put1_own {e : En} {i : Nat} {p : Bool} {xs ys : List D} (h : e[i]? = some (some (SV.own p xs))) : put1 e i ys = e.set i (some (.own p ys)) := by unfold put1; rw [h]
theorem put1_not {e : En} {i : Nat} {ys : List D} (h : ∀ (p : Bool) (xs : List D), e[i]? ≠ some (some (SV.own p xs))) : put1 e i ys = e := by
  unfold put1
  cases q : e[i]? with
  | none => rfl
  | some o =>
    cases o with
    | none => rfl
    | some s =>
      cases s with
      | d x => rfl
      | own p xs => exact (h p xs q).elim
theorem put1_ne {e : En} {i j : Nat} {ys : List D} (h : i ≠ j) : (put1 e i ys)[j]? = e[j]? := by
  unfold put1
  split
  · exact getset_ne h
  · rfl
theorem put1_length {e : En} {i : Nat} {ys : List D} : (put1 e i ys).length = e.length := by
  unfold put1
  split
  · exact List.length_set
  · rfl
/-- the slots' own lists as the call leaves them -/
def wb (e : En) : List Ref → List SV → En
  | .slot i :: rs, .own _ ys :: ss => wb (put1 e i ys) rs ss
  | _ :: rs, _ :: ss => wb e rs ss
  | _, _ => e
def dCall (F : FnDen) (fl : En → EOut (List Ref)) : En → EOut RV := fun e => (fl e).bind fun rs e1 => match svsOf e1 rs with
  | some ss => if distinct rs = true then (match F ss with
    | .ret r o => .ok r (wb e1 rs (mix ss o))
    | .exc c o => .exc c (wb e1 rs (mix ss o))
    | .bad => .bad) else .bad
  | none => .bad
theorem svsOf_get {e : En} : ∀ {rs : List Ref} {ss : List SV} {j : Nat} {r : Ref}, svsOf e rs = some ss → rs[j]? = some r → ∃ s, ss[j]? = some s ∧ svOf e r = some s
  | [], _, j, r, _, h => by simp at h
  | r0 :: rs, ss, j, r, q, h => by
    unfold svsOf at q
    cases q1 : svOf e r0 with
    | none => rw [q1] at q; cases q
    | some s =>
      rw [q1] at q
      obtain ⟨s2, q2, rfl⟩ := Option.map_eq_some_iff.mp q
      cases j with
      | zero => simp at h; subst h; exact ⟨s, rfl, q1⟩
      | succ j => exact svsOf_get (j := j) q2 (by simpa using h)
theorem svsOf_length {e : En} : ∀ {rs : List Ref} {ss : List SV}, svsOf e rs = some ss → ss.length = rs.length
  | [], _, q => by cases q; rfl
  | r0 :: rs, ss, q => by
    unfold svsOf at q
    cases q1 : svOf e r0 with
    | none => rw [q1] at q; cases q
    | some s =>
      rw [q1] at q
      obtain ⟨s2, q2, rfl⟩ := Option.map_eq_some_iff.mp q
      exact congrArg (· + 1) (svsOf_length q2)
theorem distinct_inj : ∀ {rs : List Ref} {j k i : Nat}, distinct rs = true → rs[j]? = some (Ref.slot i) → rs[k]? = some (Ref.slot i) → j = k
  | [], _, _, _, _, h, _ => by simp at h
  | r0 :: rs, j, k, i, d, h1, h2 => by
    have dr : distinct rs = true := by
      cases r0 with
      | imm x => exact d
      | slot x => exact (Bool.and_eq_true_iff.mp d).2
    have no : ∀ m, r0 = .slot i → rs[m]? = some (Ref.slot i) → False := fun m e q => by
      subst e
      have := (Bool.and_eq_true_iff.mp d).1
      have z := List.all_eq_true.mp this _ (List.mem_of_getElem? q)
      simp at z
    cases j with
    | zero =>
      cases k with
      | zero => rfl
      | succ k => exact (no k (by simpa using h1) (by simpa using h2)).elim
    | succ j =>
      cases k with
      | zero => exact (no j (by simpa using h2) (by simpa using h1)).elim
      | succ k => exact congrArg (· + 1) (distinct_inj (j := j) (k := k) dr (by simpa using h1) (by simpa using h2))
theorem RpRs.get {K : PySem.W.Frag} {κ : Kt} {σ : St} {H : Hp} {e : En} : ∀ {rs : List Ref} {vs : List V} {j : Nat} {r : Ref}, RpRs K κ σ H e rs vs → rs[j]? = some r → ∃ v, vs[j]? = some v ∧ RpR K κ σ H e r v
  | [], _, j, r, _, h => by simp at h
  | r0 :: rs, _, j, r, ⟨v, vr, e1, h1, h2⟩, h => by
    subst e1
    cases j with
    | zero => simp at h; subst h; exact ⟨v, rfl, h1⟩
    | succ j => exact RpRs.get (j := j) h2 (by simpa using h)
theorem RpRs.length {K : PySem.W.Frag} {κ : Kt} {σ : St} {H : Hp} {e : En} : ∀ {rs : List Ref} {vs : List V}, RpRs K κ σ H e rs vs → vs.length = rs.length
  | [], _, h => by cases h; rfl
  | r0 :: rs, _, ⟨v, vr, e1, h1, h2⟩ => by subst e1; exact congrArg (· + 1) h2.length
/-- what wb leaves at a slot -/
theorem wb_get : ∀ {rs : List Ref} {ss : List SV} {e : En} {i : Nat}, distinct rs = true → rs.length = ss.length →
    (∀ (j : Nat) (p : Bool) (ys : List D), rs[j]? = some (Ref.slot i) → ss[j]? = some (SV.own p ys) → ∀ (q : Bool) (xs : List D), e[i]? = some (some (SV.own q xs)) → (wb e rs ss)[i]? = some (some (SV.own q ys))) ∧
    ((∀ (j : Nat) (p : Bool) (ys : List D), rs[j]? = some (Ref.slot i) → ss[j]? = some (SV.own p ys) → False) → (wb e rs ss)[i]? = e[i]?) ∧
    ((∀ (q : Bool) (xs : List D), e[i]? ≠ some (some (SV.own q xs))) → (wb e rs ss)[i]? = e[i]?) ∧ (wb e rs ss).length = e.length
  | [], [], e, i, _, _ => ⟨fun j p ys h => by simp at h, fun _ => rfl, fun _ => rfl, rfl⟩
  | r0 :: rs, s0 :: ss, e, i, d, hl => by
    have dr : distinct rs = true := by
      cases r0 with
      | imm x => exact d
      | slot x => exact (Bool.and_eq_true_iff.mp d).2
    have hl' : rs.length = ss.length := by simpa using hl
    have skip : ∀ e1 : En, wb e (r0 :: rs) (s0 :: ss) = wb e1 rs ss → e1[i]? = e[i]? → e1.length = e.length → (∀ p ys, r0 = .slot i → s0 = .own p ys → False) →
        (∀ (j : Nat) (p : Bool) (ys : List D), (r0 :: rs)[j]? = some (Ref.slot i) → (s0 :: ss)[j]? = some (SV.own p ys) → ∀ (q : Bool) (xs : List D), e[i]? = some (some (SV.own q xs)) → (wb e (r0 :: rs) (s0 :: ss))[i]? = some (some (SV.own q ys))) ∧
        ((∀ (j : Nat) (p : Bool) (ys : List D), (r0 :: rs)[j]? = some (Ref.slot i) → (s0 :: ss)[j]? = some (SV.own p ys) → False) → (wb e (r0 :: rs) (s0 :: ss))[i]? = e[i]?) ∧
        ((∀ (q : Bool) (xs : List D), e[i]? ≠ some (some (SV.own q xs))) → (wb e (r0 :: rs) (s0 :: ss))[i]? = e[i]?) ∧ (wb e (r0 :: rs) (s0 :: ss)).length = e.length := fun e1 hw he hlen hn => by
      obtain ⟨h1, h2, h3, h4⟩ := wb_get (rs := rs) (ss := ss) (e := e1) (i := i) dr hl'
      rw [hw]
      rw [he] at h1 h2 h3
      refine ⟨fun j p ys a b => ?_, fun a => h2 fun j p ys x y => a (j + 1) p ys (by simpa using x) (by simpa using y), h3, h4.trans hlen⟩
      cases j with
      | zero => exact (hn p ys (by simpa using a) (by simpa using b)).elim
      | succ j => exact h1 j p ys (by simpa using a) (by simpa using b)
    cases r0 with
    | imm x => exact skip e (by cases s0 <;> rfl) rfl rfl fun p ys z => by cases z
    | slot k =>
      cases s0 with
      | d x => exact skip e rfl rfl rfl fun p ys _ z => by cases z
      | own p0 ys0 =>
        by_cases hk : k = i
        · subst hk
          have no : ∀ m : Nat, rs[m]? ≠ some (Ref.slot k) := fun m q => by
            have := (Bool.and_eq_true_iff.mp d).1
            have z := List.all_eq_true.mp this _ (List.mem_of_getElem? q)
            simp at z
          have hw : wb e (.slot k :: rs) (.own p0 ys0 :: ss) = wb (put1 e k ys0) rs ss := rfl
          obtain ⟨h1, h2, h3, h4⟩ := wb_get (rs := rs) (ss := ss) (e := put1 e k ys0) (i := k) dr hl'
          have z := h2 fun j p ys a _ => no j a
          rw [hw, z]
          refine ⟨fun j p ys a b q xs c => ?_, fun a => (a 0 p0 ys0 rfl rfl).elim, fun a => by rw [put1_not a], h4.trans put1_length⟩
          have : j = 0 := distinct_inj (rs := .slot k :: rs) d a rfl
          subst this
          simp at b
          obtain ⟨rfl, rfl⟩ := b
          rw [put1_own c]
          exact getset_eq c
        · exact skip (put1 e k ys0) rfl (put1_ne hk) put1_length fun p ys z _ => hk (Ref.slot.inj z)
end Fw
namespace Fw
open PySem PySem.Spec L2

section
variable {K : PySem.W.Frag} {κ : Kt} {σ : St} {H H' : Hp} {e : En} {rs : List Ref} {vs : List V} {ss : List SV} {o : List (List D)}
theorem em_get {as : List SV} {i : Nat} {s : SV} : (em as)[i]? = some (some s) ↔ as[i]? = some s := by simp [em]
theorem sm_get {vs : List V} {i : Nat} {v : V} : (sm vs)[i]? = some (some v) ↔ vs[i]? = some v := by simp [sm]
theorem svOf_slot {i : Nat} : svOf e (.slot i) = match e[i]? with
    | some (some (.d x)) => some (.d x)
    | some (some (.own _ xs)) => some (.own true xs)
    | _ => none := rfl
/-- which slot an own argument comes from -/
theorem arg_own (hs : svsOf e rs = some ss) {j : Nat} {p : Bool} {xs : List D} (h : ss[j]? = some (SV.own p xs)) : p = true ∧ ∃ (i : Nat) (q : Bool), rs[j]? = some (Ref.slot i) ∧ e[i]? = some (some (SV.own q xs)) := by
  have hl := svsOf_length hs
  have hj : j < ss.length := (List.getElem?_eq_some_iff.mp h).1
  obtain ⟨s, h1, h2⟩ := svsOf_get hs (List.getElem?_eq_getElem (show j < rs.length by omega))
  rw [h] at h1; cases h1
  cases hr : rs[j]'(by omega) with
  | imm d => rw [hr] at h2; cases h2
  | slot i =>
    rw [hr] at h2
    have e2 : rs[j]? = some (Ref.slot i) := by rw [List.getElem?_eq_getElem (show j < rs.length by omega), hr]
    rw [svOf_slot] at h2
    cases q : e[i]? with
    | none => rw [q] at h2; cases h2
    | some x =>
      rw [q] at h2
      cases x with
      | none => cases h2
      | some s =>
        cases s with
        | d x => cases h2
        | own p1 ys => cases h2; exact ⟨rfl, i, p1, e2, q⟩
theorem arg_d (hs : svsOf e rs = some ss) {j : Nat} {x : D} (h : ss[j]? = some (SV.d x)) : rs[j]? = some (Ref.imm x) ∨ ∃ i : Nat, rs[j]? = some (Ref.slot i) ∧ e[i]? = some (some (SV.d x)) := by
  have hl := svsOf_length hs
  have hj : j < ss.length := (List.getElem?_eq_some_iff.mp h).1
  obtain ⟨s, h1, h2⟩ := svsOf_get hs (List.getElem?_eq_getElem (show j < rs.length by omega))
  rw [h] at h1; cases h1
  cases hr : rs[j]'(by omega) with
  | imm d => rw [hr] at h2; cases h2; exact .inl (by rw [List.getElem?_eq_getElem (show j < rs.length by omega), hr])
  | slot i =>
    rw [hr] at h2
    have e2 : rs[j]? = some (Ref.slot i) := by rw [List.getElem?_eq_getElem (show j < rs.length by omega), hr]
    rw [svOf_slot] at h2
    cases q : e[i]? with
    | none => rw [q] at h2; cases h2
    | some x =>
      rw [q] at h2
      cases x with
      | none => cases h2
      | some s =>
        cases s with
        | d x => cases h2; exact .inr ⟨i, e2, q⟩
        | own p1 ys => cases h2
/-- the callee's own lists are the caller's -/
theorem own_sub (hr : RpRs K κ σ H e rs vs) (hs : svsOf e rs = some ss) {a : Addr} (h : OwnAt (sm vs) (em ss) a) : OwnAt σ e a := by
  obtain ⟨j, p, xs, h1, h2⟩ := h
  obtain ⟨_, i, q, k1, k2⟩ := arg_own hs (em_get.mp h1)
  obtain ⟨v, k3, k4⟩ := hr.get k1
  have := sm_get.mp h2
  rw [this] at k3; cases k3
  exact ⟨i, q, xs, k2, k4⟩
/-- the lists that are not the callee's own -/
abbrev calA (κ : Kt) (σ : St) (e : En) (vs : List V) (ss : List SV) : AS := fun a => AO κ σ e a ∧ ¬ OwnAt (sm vs) (em ss) a
abbrev calK (κ : Kt) (σ : St) (e : En) (vs : List V) (ss : List SV) : Kt := ⟨calA κ σ e vs ss, κ.G, κ.ec⟩
theorem cal_ao (hr : RpRs K κ σ H e rs vs) (hs : svsOf e rs = some ss) (a : Addr) : AO (calK κ σ e vs ss) (sm vs) (em ss) a ↔ AO κ σ e a := by
  constructor
  · rintro (⟨h, _⟩ | h)
    · exact h
    · exact .inr (own_sub hr hs h)
  · intro h
    by_cases q : OwnAt (sm vs) (em ss) a
    · exact .inr q
    · exact .inl ⟨h, q⟩
theorem cal_rel (R : Rel K κ σ H e) (hr : RpRs K κ σ H e rs vs) (hs : svsOf e rs = some ss) (hd : distinct rs = true) : Rel K (calK κ σ e vs ss) (sm vs) H (em ss) where
  len := by simp [em, sm, svsOf_length hs, hr.length]
  dat := fun j x h => by
    have av : ∀ a, AO (calK κ σ e vs ss) (sm vs) (em ss) a → AO κ σ e a ∨ Fre H a := fun a h => .inl ((cal_ao hr hs a).mp h)
    rcases arg_d hs (em_get.mp h) with k | ⟨i, k, k2⟩
    · obtain ⟨v, k3, k4⟩ := hr.get k
      exact ⟨v, sm_get.mpr k3, Rp.avoid av k4⟩
    · obtain ⟨v, k3, k4⟩ := hr.get k
      obtain ⟨w, k5, k6⟩ := R.dat i x k2
      have k4 : σ[i]? = some (some v) := k4
      rw [k4] at k5; cases k5
      exact ⟨v, sm_get.mpr k3, k6.avoid av⟩
  own := fun j p xs h => by
    have av : ∀ a, AO (calK κ σ e vs ss) (sm vs) (em ss) a → AO κ σ e a ∨ Fre H a := fun a h => .inl ((cal_ao hr hs a).mp h)
    obtain ⟨_, i, q, k1, k2⟩ := arg_own hs (em_get.mp h)
    obtain ⟨v, k3, k4⟩ := hr.get k1
    have k4 : σ[i]? = some (some v) := k4
    obtain ⟨a, ws, m1, m2, m3, m4⟩ := R.own i q xs k2
    rw [k4] at m1; cases m1
    exact ⟨a, ws, sm_get.mpr k3, m2, fun z => z.2 ⟨j, p, xs, h, sm_get.mpr k3⟩, m4.avoid av⟩
  inj := fun j k p q xs ys a h1 h2 h3 h4 => by
    obtain ⟨_, i, p', m1, m2⟩ := arg_own hs (em_get.mp h1)
    obtain ⟨_, i', q', n1, n2⟩ := arg_own hs (em_get.mp h2)
    obtain ⟨v, m3, m4⟩ := hr.get m1
    obtain ⟨v', n3, n4⟩ := hr.get n1
    rw [sm_get.mp h3] at m3; cases m3
    rw [sm_get.mp h4] at n3; cases n3
    have : i = i' := R.inj i i' _ _ _ _ a m2 n2 m4 n4
    subst this
    exact distinct_inj hd m1 n1
  av := fun a h => AO.notFre R h.1
  g := R.g
theorem mix_get_own {s : List SV} {y : List (List D)} {i : Nat} {p : Bool} {xs : List D} (h : s[i]? = some (SV.own p xs)) : ∃ zs, (mix s y)[i]? = some (SV.own p zs) := mix_own.mpr ⟨xs, h⟩
theorem mixed_own (vs : List V) (ss : List SV) (o : List (List D)) (a : Addr) : OwnAt (sm vs) (em (mix ss o)) a ↔ OwnAt (sm vs) (em ss) a := by
  constructor
  · rintro ⟨j, p, xs, h1, h2⟩
    obtain ⟨zs, h⟩ := mix_own.mp ⟨xs, em_get.mp h1⟩
    exact ⟨j, p, zs, em_get.mpr h, h2⟩
  · rintro ⟨j, p, xs, h1, h2⟩
    obtain ⟨zs, h⟩ := mix_own (y := o).mpr ⟨xs, em_get.mp h1⟩
    exact ⟨j, p, zs, em_get.mpr h, h2⟩
theorem rel_congr {κ κ' : Kt} {σ : St} {e : En} (h : Rel K κ σ H e) (hA : ∀ a, κ'.A a ↔ κ.A a) (hG : κ'.G = κ.G) : Rel K κ' σ H e := by
  have s : ∀ a, AO κ' σ e a → AO κ σ e a ∨ Fre H a := fun a q => .inl (q.imp (hA a).mp id)
  exact ⟨h.len, fun i x q => let ⟨v, h1, h2⟩ := h.dat i x q; ⟨v, h1, h2.avoid s⟩, fun i p xs q => let ⟨a, ws, h1, h2, h3, h4⟩ := h.own i p xs q; ⟨a, ws, h1, h2, fun z => h3 ((hA a).mp z), h4.avoid s⟩, h.inj, fun a q => h.av a ((hA a).mp q), by rw [hG]; exact h.g⟩
section
variable (R : Rel K κ σ H e) (hr : RpRs K κ σ H e rs vs) (hs : svsOf e rs = some ss) (hd : distinct rs = true)
include R hr hs hd
/-- what stands at a slot behind the call -/
theorem wb_cases {i : Nat} {q : Bool} {xs : List D} (h : e[i]? = some (some (SV.own q xs))) : (∃ (j : Nat) (ys : List D), rs[j]? = some (Ref.slot i) ∧ (mix ss o)[j]? = some (SV.own true ys) ∧ (wb e rs (mix ss o))[i]? = some (some (SV.own q ys))) ∨
    ((∀ j : Nat, rs[j]? ≠ some (Ref.slot i)) ∧ (wb e rs (mix ss o))[i]? = some (some (SV.own q xs))) := by
  have hl : rs.length = (mix ss o).length := by rw [mix_length, svsOf_length hs]
  obtain ⟨w1, w2, w3, w4⟩ := wb_get (e := e) (i := i) hd hl
  by_cases hj : ∃ j : Nat, rs[j]? = some (Ref.slot i)
  · obtain ⟨j, hj⟩ := hj
    obtain ⟨s, k1, k2⟩ := svsOf_get hs hj
    rw [svOf_slot] at k2
    rw [h] at k2
    cases k2
    obtain ⟨ys, k3⟩ := mix_get_own (y := o) k1
    exact .inl ⟨j, ys, hj, k3, w1 j true ys hj k3 q xs h⟩
  · exact .inr ⟨fun j z => hj ⟨j, z⟩, (w2 fun j p ys z _ => hj ⟨j, z⟩).trans h⟩
theorem wb_not {i : Nat} (h : ∀ (q : Bool) (xs : List D), e[i]? ≠ some (some (SV.own q xs))) : (wb e rs (mix ss o))[i]? = e[i]? :=
  (wb_get (e := e) (i := i) hd (by rw [mix_length, svsOf_length hs])).2.2.1 h
theorem wb_own_back {i : Nat} {q : Bool} {ys : List D} (h : (wb e rs (mix ss o))[i]? = some (some (SV.own q ys))) : ∃ xs, e[i]? = some (some (SV.own q xs)) := by
  by_cases z : ∃ (q : Bool) (xs : List D), e[i]? = some (some (SV.own q xs))
  · obtain ⟨q', xs, z⟩ := z
    rcases wb_cases R hr hs hd (o := o) z with ⟨j, ys', _, _, k⟩ | ⟨_, k⟩
    · rw [h] at k; cases k; exact ⟨xs, z⟩
    · rw [h] at k; cases k; exact ⟨_, z⟩
  · rw [wb_not R hr hs hd (o := o) (fun q xs y => z ⟨q, xs, y⟩)] at h
    exact ⟨ys, h⟩
theorem wb_own : ∀ a, OwnAt σ (wb e rs (mix ss o)) a ↔ OwnAt σ e a := fun a => by
  constructor
  · rintro ⟨i, p, xs, h1, h2⟩
    obtain ⟨ys, h⟩ := wb_own_back R hr hs hd h1
    exact ⟨i, p, ys, h, h2⟩
  · rintro ⟨i, p, xs, h1, h2⟩
    rcases wb_cases R hr hs hd (o := o) h1 with ⟨j, ys', _, _, k⟩ | ⟨_, k⟩
    · exact ⟨i, p, _, k, h2⟩
    · exact ⟨i, p, _, k, h2⟩
/-- the caller's state behind the call; C: lists more to be avoided, none that stood -/
theorem cal_relC (C : AS) (hC : ∀ a, C a → Fre H a) (hC' : ∀ a, C a → ¬ Fre H' a) (x : Ext (OwnAt (sm vs) (em ss)) H H')
    (R' : Rel K ⟨fun a => calA κ σ e vs ss a ∨ C a, κ.G, κ.ec⟩ (sm vs) H' (em (mix ss o))) : Rel K ⟨fun a => κ.A a ∨ C a, κ.G, κ.ec⟩ σ H' (wb e rs (mix ss o)) where
  len := by rw [(wb_get (e := e) (i := 0) hd (by rw [mix_length, svsOf_length hs])).2.2.2]; exact R.len
  dat := fun i y h => by
    have h0 : e[i]? = some (some (SV.d y)) := by
      rw [wb_not R hr hs hd (o := o) (fun q xs z => by
        rcases wb_cases R hr hs hd (o := o) z with ⟨j, ys', _, _, k⟩ | ⟨_, k⟩ <;> (rw [h] at k; cases k))] at h
      exact h
    obtain ⟨v, k1, k2⟩ := R.dat i y h0
    refine ⟨v, k1, k2.go (x.mono fun a z => .inr (own_sub hr hs z)) fun a z => ?_⟩
    rcases z with (z | z) | z
    · exact .inl (.inl z)
    · exact .inr (hC a z)
    · exact .inl (.inr ((wb_own R hr hs hd a).mp z))
  own := fun i q ys h => by
    have av : ∀ a, AO ⟨fun a => κ.A a ∨ C a, κ.G, κ.ec⟩ σ (wb e rs (mix ss o)) a → AO ⟨fun a => calA κ σ e vs ss a ∨ C a, κ.G, κ.ec⟩ (sm vs) (em (mix ss o)) a := fun a z => by
      rcases z with (z | z) | z
      · by_cases w : OwnAt (sm vs) (em ss) a
        · exact .inr ((mixed_own vs ss o a).mpr w)
        · exact .inl (.inl ⟨.inl z, w⟩)
      · exact .inl (.inr z)
      · have z := (wb_own R hr hs hd a).mp z
        by_cases w : OwnAt (sm vs) (em ss) a
        · exact .inr ((mixed_own vs ss o a).mpr w)
        · exact .inl (.inl ⟨.inr z, w⟩)
    obtain ⟨xs, h0⟩ := wb_own_back R hr hs hd h
    obtain ⟨a, ws, k1, k2, k3, k4⟩ := R.own i q xs h0
    rcases wb_cases R hr hs hd (o := o) h0 with ⟨j, zs, j1, j2, j3⟩ | ⟨j1, j2⟩
    · rw [h] at j3; cases j3
      obtain ⟨b, ws', m1, m2, m3, m4⟩ := R'.own j true ys (em_get.mpr j2)
      obtain ⟨v, n1, n2⟩ := hr.get j1
      have n2 : σ[i]? = some (some v) := n2
      rw [k1] at n2; cases n2
      rw [sm_get.mp m1] at n1; cases n1
      refine ⟨a, ws', k1, m2, fun z => ?_, m4.avoid fun c z => .inl (av c z)⟩
      rcases z with z | z
      · exact k3 z
      · exact hC a z _ k2 nt_lst
    · rw [h] at j2; cases j2
      have na : ¬ OwnAt (sm vs) (em ss) a := fun ⟨j, p, zs, m1, m2⟩ => by
        obtain ⟨_, i', q', n1, n2⟩ := arg_own hs (em_get.mp m1)
        obtain ⟨v, n3, n4⟩ := hr.get n1
        rw [sm_get.mp m2] at n3; cases n3
        have := R.inj i i' _ _ _ _ a h0 n2 k1 n4
        subst this
        exact j1 j n1
      refine ⟨a, ws, k1, (x a _ k2 nt_lst).1 na, fun z => ?_, k4.go (x.mono fun b z => .inr (own_sub hr hs z)) fun b z => ?_⟩
      · rcases z with z | z
        · exact k3 z
        · exact hC a z _ k2 nt_lst
      · rcases z with (z | z) | z
        · exact .inl (.inl z)
        · exact .inr (hC b z)
        · exact .inl (.inr ((wb_own R hr hs hd b).mp z))
  inj := fun i k p q xs ys a h1 h2 h3 h4 => by
    obtain ⟨xs', m1⟩ := wb_own_back R hr hs hd h1
    obtain ⟨ys', m2⟩ := wb_own_back R hr hs hd h2
    exact R.inj i k p q xs' ys' a m1 m2 h3 h4
  av := fun a h z => by
    rcases h with h | h
    · exact R.av a h (x.fre z)
    · exact hC' a h z
  g := R'.g
theorem cal_step (s : Step K (calK κ σ e vs ss) (sm vs) H (em ss) (sm vs) H' (em (mix ss o))) : Step K κ σ H e σ H' (wb e rs (mix ss o)) where
  rel := by
    have h := cal_relC R hr hs hd (o := o) (fun _ => False) (fun _ z => z.elim) (fun _ z => z.elim) s.ext (rel_congr s.rel (fun a => by simp) rfl)
    exact rel_congr h (fun a => by simp) rfl
  ext := s.ext.mono fun a z => own_sub hr hs z
  own := fun a z => .inl ((wb_own R hr hs hd a).mp z)
  pin := fun i xs h => by
    rcases wb_cases R hr hs hd (o := o) h with ⟨j, ys, _, _, k⟩ | ⟨_, k⟩
    · exact ⟨⟨ys, k⟩, rfl⟩
    · exact ⟨⟨xs, k⟩, rfl⟩
end
end
end Fw
namespace Fw
open PySem PySem.Spec L2

section
variable {K : PySem.W.Frag} {κ : Kt} {σ σ' : St} {H H' : Hp} {e e' : En} {rs : List Ref} {vs : List V} {ss : List SV} {o : List (List D)}
/-! ### calls -/
def arK (n : Nat) (x : EOut (List Ref)) : EOut (List Ref) := x.bind fun rs e => if rs.length = n then .ok rs e else .bad
/-- behind a call: what its value is to the caller -/
theorem cal_val {r : RV} {v : V} (R : Rel K κ σ H e) (hr : RpRs K κ σ H e rs vs) (hs : svsOf e rs = some ss) (hd : distinct rs = true)
    (s : Step K (calK κ σ e vs ss) (sm vs) H (em ss) (sm vs) H' (em (mix ss o))) (rv : RpV K (calK κ σ e vs ss) (sm vs) H (sm vs) H' (em (mix ss o)) r v) : RpV K κ σ H σ H' (wb e rs (mix ss o)) r v := by
  have av : ∀ a, AO κ σ (wb e rs (mix ss o)) a → AO (calK κ σ e vs ss) (sm vs) (em (mix ss o)) a := fun a z => by
    have z : AO κ σ e a := z.imp id (wb_own R hr hs hd a).mp
    rcases (cal_ao hr hs a).mpr z with z | z
    · exact .inl z
    · exact .inr ((mixed_own vs ss o a).mpr z)
  cases r with
  | d x => exact Rp.avoid (fun a z => .inl (av a z)) rv
  | own xs =>
    obtain ⟨a, ws, rfl, h1, h2, h3, h4⟩ := rv
    refine ⟨a, ws, rfl, h1, h2, ?_, h4.avoid fun b z => .inl ?_⟩
    · have h := cal_relC R hr hs hd (o := o) (fun b => b = a) (fun b z => z ▸ h1) (fun b z q => q _ (z ▸ h2) nt_lst) s.ext (rel_congr h3 (fun b => Iff.rfl) rfl)
      exact rel_congr h (fun b => Iff.rfl) rfl
    · rcases z with (z | z) | z
      · exact (av b (.inl z)).imp .inl id
      · exact .inl (.inr z)
      · exact (av b (.inr z)).imp .inl id
/-- a new list as a value -/
theorem own_rp {a : Addr} {ws : List V} {xs : List D} (hA : ¬ κ.A a) (h2 : H a = some (.lst ws)) (h3 : Rel K (κ.plus a) σ H e) (h4 : RpAll K H (AO (κ.plus a) σ e) ws xs) : Rp K H (AO κ σ e) (.ref a) (.list xs) := by
  refine .lst (.inl ⟨.inl h2, fun z => ?_⟩) (h4.avoid fun b z => .inl (z.imp .inl id))
  rcases z with z | ⟨i, p, ys, z1, z2⟩
  · exact hA z
  · obtain ⟨b, vs, k1, k2, k3, _⟩ := h3.own i p ys z1
    rw [z2] at k1; cases k1
    exact k3 (.inr rfl)
def rvD : RV → D
  | .d x => x
  | .own xs => .list xs
theorem rpv_rp {r : RV} {v : V} (R : Rel K κ σ H e) (h : RpV K κ σ H σ' H' e' r v) : Rp K H' (AO κ σ' e') v (rvD r) := by
  cases r with
  | d x => exact h
  | own xs =>
    obtain ⟨a, ws, rfl, h1, h2, h3, h4⟩ := h
    exact own_rp (fun z => R.av a z h1) h2 h3 h4
theorem sat_arK {n : Nat} {x : EOut (List Ref)} {P : List Ref → En → Prop} {E : Nat → En → Prop} (h : sat (arK n x) P E) : sat x (fun rs e => rs.length = n ∧ P rs e) E := by
  refine (sat_bind h).mono (fun rs e h => ?_) fun c e h => h
  exact sat_if h
end
/-- a call of a plain function: what its end is -/
theorem passLN {X : Cx} : Passes (L2N.CX X.prog X.w) X E0 := fun _ _ _ _ _ _ _ h => by
  obtain ⟨_, _, _, _, _, _, _, _, _, _, _, _, z⟩ := h
  exact z.elim
def dRun (F : FnDen) (rs : List Ref) (e1 : En) : EOut RV := match svsOf e1 rs with
  | some ss => if distinct rs = true then (match F ss with
    | .ret r o => .ok r (wb e1 rs (mix ss o))
    | .exc c o => .exc c (wb e1 rs (mix ss o))
    | .bad => .bad) else .bad
  | none => .bad
def dCallR (n : Nat) (F : FnDen) (fl : En → EOut (List Ref)) : En → EOut RV := fun e => (fl e).bind fun rs e1 => if rs.length = n then dRun F rs e1 else .bad
def dCallV (n : Nat) (F : FnDen) (fl : En → EOut (List Ref)) : En → EOut Ref := fun e => (dCallR n F fl e).bind fun r e1 => .ok (.imm (rvD r)) e1
/-- a call that hands back a new list -/
def dCallF (n : Nat) (F : FnDen) (fl : En → EOut (List Ref)) : En → EOut (List D) := fun e => (dCallR n F fl e).bind fun r e1 => match r with
  | .own xs => .ok xs e1
  | .d _ => .bad
/-- the reading of what makes a new list -/
def tF (K : PySem.W.Frag) (κ : Kt) (W : WX) (f : En → EOut (List D)) : TE := fun σ H Q => ∃ e, Rel K κ σ H e ∧
  sat (f e) (fun xs e' => ∀ v H', Step K κ σ H e σ H' e' → RpV K κ σ H σ H' e' (.own xs) v → Q v H') (PX K κ W σ H e)
section
variable {X : Cx} {κ : Kt} {W : WX} {pos p : Pos} {a : Expr} {es : List Expr} {x : Str} {f : Addr} {fd : FuncData} {ps : List Str} {k : Nat} {F : FnDen} {fl : En → EOut (List Ref)}
theorem run_step {σ : St} {H : Hp} {Q : VK} {E : XK} {e : En} {rs : List Ref} {vs : List V} {n : Nat} (R : Rel X.K κ σ H e) (hr : RpRs X.K κ σ H e rs vs) (hn : rs.length = n)
    (h : sat (dRun F rs e) (fun r e' => ∀ v H', Step X.K κ σ H e σ H' e' → RpV X.K κ σ H σ H' e' r v → Q v H') (fun c e' => ∀ od H', dxOk c od → Step X.K κ σ H e σ H' e' → E (.ref (κ.ec c)) od H')) : spOf X.K κ.G κ.ec n F vs H Q E := by
  refine ⟨by rw [hr.length, hn], ?_⟩
  unfold dRun at h
  cases hs : svsOf e rs with
  | none => rw [hs] at h; exact h.elim
  | some ss =>
    rw [hs] at h
    obtain ⟨hd, h⟩ := sat_if h
    refine ⟨calA κ σ e vs ss, ss, cal_rel R hr hs hd, fun i p xs z => (arg_own hs z).1, ?_⟩
    cases hF : F ss with
    | bad => rw [hF] at h; exact h.elim
    | exc c o => rw [hF] at h; exact fun od H' z s => h od H' z (cal_step R hr hs hd s)
    | ret r o => rw [hF] at h; exact fun v H' s rv => h v H' (cal_step R hr hs hd s) (cal_val R hr hs hd s rv)
theorem rpv_from {K : PySem.W.Frag} {σ σ1 : St} {H H1 H' : Hp} {e' : En} {r : RV} {v : V} (fr : ∀ a, Fre H1 a → Fre H a) (h : RpV K κ σ1 H1 σ H' e' r v) : RpV K κ σ H σ H' e' r v := by
  cases r with
  | d x => exact h
  | own xs => obtain ⟨a, ws, h0, h1, h2⟩ := h; exact ⟨a, ws, h0, fr a h1, h2⟩
/-- from the caller's reading to the callee's promise -/
theorem call_step {σ : St} {H : Hp} {Q : VK} {n : Nat} {e : En} (R : Rel X.K κ σ H e)
    (h : sat (dCallR n F fl e) (fun r e' => ∀ v H', Step X.K κ σ H e σ H' e' → RpV X.K κ σ H σ H' e' r v → Q v H') (PX X.K κ W σ H e)) :
    tL X.K κ W fl σ H fun vs H1 => spOf X.K κ.G κ.ec n F vs H1 Q (WE W σ) := by
  refine ⟨e, R, (sat_bind h).mono (fun rs e1 h vs H1 s1 r1 => ?_) fun c e' h => h⟩
  obtain ⟨hn, h⟩ := sat_if h
  exact run_step s1.rel r1 hn (h.mono (fun r e2 h v H2 s2 rv => h v H2 (s1.trans s2) (rpv_from (fun a z => s1.ext.fre z) rv)) fun c e2 h od H2 z s2 => h od H2 z (s1.trans s2))
theorem ev_call (G : FnOk X.prog X.w X.K X.mg X.base (L2N.CX X.prog X.w) k f fd ps (spOf X.K κ.G κ.ec ps.length F)) (hr : Room k X.A) (hg : Gl X x) (hm : X.mg x = some (.ref f)) (hk : PySem.W.keepIn X.K (.ref f) = true) (hb : Binds X.K fd ps []) (tk : L2N.Takes X W)
    (ha : PA X (a :: es) (tL X.K κ W fl)) (hdb : (x == ("__debug__" : Str)) = false) (he : starEach (a :: es) X.env = (false, eval a X.env) :: starEach es X.env) (hpl : (backTo pos (starEach es X.env)).any (·.1) = false) :
    PE X (.Call (.Name x p) (a :: es) [] pos) (tE X.K κ W (dCallV ps.length F fl)) := by
  refine pe_imp (pe_callS G hr hg hm hk hb (fun σ => L2N.passAt tk σ) ha hdb he hpl) fun σ H Q ⟨e, R, h⟩ => ?_
  exact call_step R ((sat_bind h).mono (fun r e' h v H' s rv => h v H' s (rpv_rp R rv)) fun c e' h => h)
theorem ef_call (G : FnOk X.prog X.w X.K X.mg X.base (L2N.CX X.prog X.w) k f fd ps (spOf X.K κ.G κ.ec ps.length F)) (hr : Room k X.A) (hg : Gl X x) (hm : X.mg x = some (.ref f)) (hk : PySem.W.keepIn X.K (.ref f) = true) (hb : Binds X.K fd ps []) (tk : L2N.Takes X W)
    (ha : PA X (a :: es) (tL X.K κ W fl)) (hdb : (x == ("__debug__" : Str)) = false) (he : starEach (a :: es) X.env = (false, eval a X.env) :: starEach es X.env) (hpl : (backTo pos (starEach es X.env)).any (·.1) = false) :
    PE X (.Call (.Name x p) (a :: es) [] pos) (tF X.K κ W (dCallF ps.length F fl)) := by
  refine pe_imp (pe_callS G hr hg hm hk hb (fun σ => L2N.passAt tk σ) ha hdb he hpl) fun σ H Q ⟨e, R, h⟩ => ?_
  refine call_step R ((sat_bind h).mono (fun r e' h v H' s rv => ?_) fun c e' h => h)
  cases r with
  | d x => exact h.elim
  | own xs => exact h v H' s rv
/-- f(), nothing raised -/
def dCall0 (F : FnDen) : En → EOut Ref := fun e => match F [] with
  | .ret r _ => .ok (.imm (rvD r)) e
  | _ => .bad
theorem ev_call0 (G : FnOk X.prog X.w X.K X.mg X.base (L2N.CX X.prog X.w) k f fd ps (spOf X.K κ.G κ.ec ps.length F)) (hps : ps = []) (hr : Room k X.A) (hg : Gl X x) (hm : X.mg x = some (.ref f)) (hk : PySem.W.keepIn X.K (.ref f) = true) (hb : Binds X.K fd ps [])
    (hdb : (x == ("__debug__" : Str)) = false) : PE X (.Call (.Name x p) [] [] pos) (tE X.K κ W (dCall0 F)) := by
  subst hps
  refine pe_imp (pe_call0 (E := E0) G hr hg hm hk hb .nil passLN hdb) fun σ H Q ⟨e, R, h⟩ => ?_
  show spOf X.K κ.G κ.ec 0 F [] H Q E0
  refine run_step (e := e) (rs := []) (σ := σ) R rfl rfl ?_
  unfold dCall0 at h
  show sat (match F [] with
    | .ret r o => EOut.ok r (wb e [] (mix [] o))
    | .exc c o => .exc c (wb e [] (mix [] o))
    | .bad => .bad) _ _
  cases hF : F [] with
  | bad => rw [hF] at h; exact h.elim
  | exc c o => rw [hF] at h; exact h.elim
  | ret r o => rw [hF] at h; exact fun v H' s rv => h v H' s (rpv_rp R rv)
/-- [e, ..] new -/
def dLstF (fl : En → EOut (List Ref)) : En → EOut (List D) := fun e => (fl e).bind fun rs e1 => immK rs fun ds => if ds.length ≤ sizeLine then .ok ds e1 else .bad
theorem plus_new {K : PySem.W.Frag} {σ : St} {H : Hp} {e : En} {q : Addr} {o : HO} (R : Rel K κ σ H e) (hq : H q = none) (no : NT o) (g : κ.G (upd H q o)) : Rel K (κ.plus q) σ (upd H q o) e := by
  have x : Ext (OwnAt σ e) H (upd H q o) := (Same.new hq).ext
  have av : ∀ b, AO (κ.plus q) σ e b → AO κ σ e b ∨ Fre H b := fun b z => by
    rcases z with (z | z) | z
    · exact .inl (.inl z)
    · exact .inr (z ▸ .of_none hq)
    · exact .inl (.inr z)
  exact ⟨R.len, fun i y z => let ⟨v, h1, h2⟩ := R.dat i y z; ⟨v, h1, h2.go x.ao av⟩, fun i p xs z => let ⟨a, vs, h1, h2, h3, h4⟩ := R.own i p xs z
    ⟨a, vs, h1, Same.new hq a _ h2, (fun y => y.elim h3 (fun y => by subst y; rw [hq] at h2; cases h2)), h4.go x.ao av⟩, R.inj, fun b z y => by
      rcases z with z | z
      · exact R.av b z (x.fre y)
      · subst z; exact y _ upd_same no, g⟩
theorem ef_lst (g : GOk κ.G) (h : PA X es (tL X.K κ W fl)) : PE X (.List es pos) (tF X.K κ W (dLstF fl)) := by
  refine pe_imp (pe_lst h) fun σ H Q ⟨e, R, h⟩ => ⟨e, R, (sat_bind h).mono (fun rs e1 h vs H1 s1 r1 => ?_) fun c e' h => h⟩
  obtain ⟨ds, q1, h⟩ := sat_imm h
  obtain ⟨q2, h⟩ := sat_if h
  have ra := imms_rp r1 q1
  refine ⟨by rw [ra.length]; exact q2, fun q hq => h _ _ (s1.trans (.same s1.rel (.new hq) (g.new s1.rel.g hq))) ⟨q, vs, rfl, s1.ext.fre (.of_none hq), upd_same, plus_new s1.rel hq nt_lst (g.new s1.rel.g hq), ?_⟩⟩
  refine ra.go (Same.new hq).ext fun b z => ?_
  rcases z with (z | z) | z
  · exact .inl (.inl z)
  · exact .inr (z ▸ .of_none hq)
  · exact .inl (.inr z)
end
end Fw
namespace Fw
open PySem PySem.Spec L2

/-! ### statements -/
inductive SOut where
  | nx (e : En)
  | rt (r : RV) (e : En)
  | bk (e : En)
  | ct (e : En)
  | exc (c : Nat) (e : En)
  | bad
def ssat (x : SOut) (n : En → Prop) (r : RV → En → Prop) (b c : En → Prop) (E : Nat → En → Prop) : Prop := match x with
  | .nx e => n e
  | .rt v e => r v e
  | .bk e => b e
  | .ct e => c e
  | .exc k e => E k e
  | .bad => False
def SOut.bind (x : SOut) (f : En → SOut) : SOut := match x with
  | .nx e => f e
  | .rt v e => .rt v e
  | .bk e => .bk e
  | .ct e => .ct e
  | .exc k e => .exc k e
  | .bad => .bad
@[simp] theorem SOut.bind_nx (e : En) (f : En → SOut) : (SOut.nx e).bind f = f e := rfl
@[simp] theorem SOut.bind_rt (v : RV) (e : En) (f : En → SOut) : (SOut.rt v e).bind f = .rt v e := rfl
@[simp] theorem SOut.bind_bk (e : En) (f : En → SOut) : (SOut.bk e).bind f = .bk e := rfl
@[simp] theorem SOut.bind_ct (e : En) (f : En → SOut) : (SOut.ct e).bind f = .ct e := rfl
@[simp] theorem SOut.bind_exc (k : Nat) (e : En) (f : En → SOut) : (SOut.exc k e).bind f = .exc k e := rfl
@[simp] theorem SOut.bind_bad (f : En → SOut) : (SOut.bad).bind f = .bad := rfl
/-- an expression, then a statement's end -/
def EOut.then {α : Type} (x : EOut α) (f : α → En → SOut) : SOut := match x with
  | .ok a e => f a e
  | .exc c e => .exc c e
  | .bad => .bad
@[simp] theorem EOut.then_ok {α : Type} (a : α) (e : En) (f : α → En → SOut) : (EOut.ok a e).then f = f a e := rfl
@[simp] theorem EOut.then_exc {α : Type} (c : Nat) (e : En) (f : α → En → SOut) : (EOut.exc c e : EOut α).then f = .exc c e := rfl
@[simp] theorem EOut.then_bad {α : Type} (f : α → En → SOut) : (EOut.bad : EOut α).then f = .bad := rfl
section
variable {n n' : En → Prop} {r r' : RV → En → Prop} {b b' c c' : En → Prop} {E E' : Nat → En → Prop}
theorem ssat_bind {x : SOut} {f : En → SOut} (h : ssat (x.bind f) n r b c E) : ssat x (fun e => ssat (f e) n r b c E) r b c E := by
  cases x <;> exact h
theorem ssat_then {α : Type} {x : EOut α} {f : α → En → SOut} (h : ssat (x.then f) n r b c E) : sat x (fun a e => ssat (f a e) n r b c E) E := by
  cases x <;> exact h
theorem ssat.mono {x : SOut} (h : ssat x n r b c E) (hn : ∀ e, n e → n' e) (hr : ∀ v e, r v e → r' v e) (hb : ∀ e, b e → b' e) (hc : ∀ e, c e → c' e) (hE : ∀ k e, E k e → E' k e) : ssat x n' r' b' c' E' := by
  cases x with
  | nx e => exact hn e h
  | rt v e => exact hr v e h
  | bk e => exact hb e h
  | ct e => exact hc e h
  | exc k e => exact hE k e h
  | bad => exact h
end
def PN (K : PySem.W.Frag) (κ : Kt) (σ : St) (H : Hp) (e : En) (N : St → Hp → Prop) (e' : En) : Prop := ∀ σ' H', Step K κ σ H e σ' H' e' → N σ' H'
def PR (K : PySem.W.Frag) (κ : Kt) (σ : St) (H : Hp) (e : En) (Q : VK) (r : RV) (e' : En) : Prop := ∀ σ' v H', Step K κ σ H e σ' H' e' → RpV K κ σ H σ' H' e' r v → Q v H'
def PXs (K : PySem.W.Frag) (κ : Kt) (W : WX) (σ : St) (H : Hp) (e : En) (c : Nat) (e' : En) : Prop := ∀ od σ' H', dxOk c od → Step K κ σ H e σ' H' e' → W (.ref (κ.ec c)) od σ' H'
def tS (K : PySem.W.Frag) (κ : Kt) (W : WX) (f : En → SOut) : TS := fun D σ H => ∃ e, Rel K κ σ H e ∧
  ssat (f e) (PN K κ σ H e D.nx) (PR K κ σ H e D.rt) (PN K κ σ H e D.bk) (PN K κ σ H e D.ct) (PXs K κ W σ H e)
section
variable {K : PySem.W.Frag} {κ : Kt} {W : WX} {σ σ1 : St} {H H1 : Hp} {e e1 : En}
theorem PN.from (s : Step K κ σ H e σ1 H1 e1) {N : St → Hp → Prop} {e' : En} (h : PN K κ σ H e N e') : PN K κ σ1 H1 e1 N e' := fun σ' H' s2 => h σ' H' (s.trans s2)
theorem PR.from (s : Step K κ σ H e σ1 H1 e1) {Q : VK} {r : RV} {e' : En} (h : PR K κ σ H e Q r e') : PR K κ σ1 H1 e1 Q r e' := fun σ' v H' s2 rv => h σ' v H' (s.trans s2) (rpv_from (fun _ z => s.ext.fre z) rv)
theorem PXs.from (s : Step K κ σ H e σ1 H1 e1) {c : Nat} {e' : En} (h : PXs K κ W σ H e c e') : PXs K κ W σ1 H1 e1 c e' := fun od σ' H' z s2 => h od σ' H' z (s.trans s2)
theorem PXs.ex {c : Nat} {e' : En} (h : PXs K κ W σ H e c e') : PX K κ W σ H e c e' := fun od H' z s => h od σ H' z s
theorem ssat.from (s : Step K κ σ H e σ1 H1 e1) {x : SOut} {D : Ends} (h : ssat x (PN K κ σ H e D.nx) (PR K κ σ H e D.rt) (PN K κ σ H e D.bk) (PN K κ σ H e D.ct) (PXs K κ W σ H e)) :
    ssat x (PN K κ σ1 H1 e1 D.nx) (PR K κ σ1 H1 e1 D.rt) (PN K κ σ1 H1 e1 D.bk) (PN K κ σ1 H1 e1 D.ct) (PXs K κ W σ1 H1 e1) :=
  h.mono (fun _ h => h.from s) (fun _ _ h => h.from s) (fun _ h => h.from s) (fun _ h => h.from s) fun _ _ h => h.from s
theorem tS_from {f : En → SOut} {D : Ends} (s : Step K κ σ H e σ1 H1 e1) (h : ssat (f e1) (PN K κ σ H e D.nx) (PR K κ σ H e D.rt) (PN K κ σ H e D.bk) (PN K κ σ H e D.ct) (PXs K κ W σ H e)) : tS K κ W f D σ1 H1 :=
  ⟨e1, s.rel, h.from s⟩
/-! targets -/
/-- a datum into a slot: no caller's list -/
def setD (i : Nat) (x : D) (e : En) : Option En := match e[i]? with
  | none => none
  | some (some (.own true _)) => none
  | _ => some (e.set i (some (.d x)))
def setOwn (i : Nat) (xs : List D) (e : En) : Option En := match e[i]? with
  | none => none
  | some (some (.own true _)) => none
  | _ => some (e.set i (some (.own false xs)))
theorem setD_inv {i : Nat} {x : D} {e e' : En} (h : setD i x e = some e') : i < e.length ∧ (∀ xs, e[i]? ≠ some (some (SV.own true xs))) ∧ e' = e.set i (some (.d x)) := by
  unfold setD at h
  split at h
  · cases h
  · cases h
  · rename_i h1 h2
    cases h
    refine ⟨?_, fun xs z => h2 xs z, rfl⟩
    rcases Nat.lt_or_ge i e.length with q | q
    · exact q
    · exact (h1 (List.getElem?_eq_none q)).elim
theorem setOwn_inv {i : Nat} {x : List D} {e e' : En} (h : setOwn i x e = some e') : i < e.length ∧ (∀ xs, e[i]? ≠ some (some (SV.own true xs))) ∧ e' = e.set i (some (.own false x)) := by
  unfold setOwn at h
  split at h
  · cases h
  · cases h
  · rename_i h1 h2
    cases h
    refine ⟨?_, fun xs z => h2 xs z, rfl⟩
    rcases Nat.lt_or_ge i e.length with q | q
    · exact q
    · exact (h1 (List.getElem?_eq_none q)).elim
theorem set_at {α : Type} {l : List α} {i : Nat} {x : α} (h : i < l.length) : (l.set i x)[i]? = some x := by rw [List.getElem?_set_self h]
theorem setD_step (R : Rel K κ σ H e) {i : Nat} {x : D} {v : V} {e' : En} (h : setD i x e = some e') (r : Rp K H (AO κ σ e) v x) : Step K κ σ H e (σ.set i (some v)) H e' := by
  obtain ⟨hi, np, rfl⟩ := setD_inv h
  have hi' : i < σ.length := by rw [← R.len]; exact hi
  have sub : ∀ a, OwnAt (σ.set i (some v)) (e.set i (some (.d x))) a → OwnAt σ e a := fun a ⟨j, p, xs, h1, h2⟩ => by
    by_cases hj : i = j
    · subst hj; rw [set_at hi] at h1; cases h1
    · rw [getset_ne hj] at h1 h2; exact ⟨j, p, xs, h1, h2⟩
  have av : ∀ a, AO κ (σ.set i (some v)) (e.set i (some (.d x))) a → AO κ σ e a ∨ Fre H a := fun a z => .inl (z.imp id (sub a))
  refine ⟨⟨by rw [List.length_set, List.length_set]; exact R.len, fun j y z => ?_, fun j p ys z => ?_, fun j k p q xs ys a h1 h2 h3 h4 => ?_, R.av, R.g⟩, .refl H, fun a z => .inl (sub a z), fun j ys z => ?_⟩
  · by_cases hj : i = j
    · subst hj; rw [set_at hi] at z; cases z; exact ⟨v, set_at hi', r.avoid av⟩
    · rw [getset_ne hj] at z
      obtain ⟨w, k1, k2⟩ := R.dat j y z
      exact ⟨w, by rw [getset_ne hj]; exact k1, k2.avoid av⟩
  · by_cases hj : i = j
    · subst hj; rw [set_at hi] at z; cases z
    · rw [getset_ne hj] at z
      obtain ⟨a, ws, k1, k2, k3, k4⟩ := R.own j p ys z
      exact ⟨a, ws, by rw [getset_ne hj]; exact k1, k2, k3, k4.avoid av⟩
  · have hj : i ≠ j := fun z => by subst z; rw [set_at hi] at h1; cases h1
    have hk : i ≠ k := fun z => by subst z; rw [set_at hi] at h2; cases h2
    rw [getset_ne hj] at h1 h3
    rw [getset_ne hk] at h2 h4
    exact R.inj j k p q xs ys a h1 h2 h3 h4
  · have hj : i ≠ j := fun y => by subst y; exact np ys z
    rw [getset_ne hj, getset_ne hj]
    exact ⟨⟨ys, z⟩, rfl⟩
/-- a new list into a slot, its own from now on -/
theorem setOwn_step {σ0 : St} {H0 : Hp} {e0 : En} (s : Step K κ σ0 H0 e0 σ H e) {i : Nat} {xs : List D} {a : Addr} {ws : List V} {e' : En} (h : setOwn i xs e = some e')
    (hA : ¬ κ.A a) (hf : Fre H0 a) (ha : H a = some (.lst ws)) (RF : Rel K (κ.plus a) σ H e) (r : RpAll K H (AO (κ.plus a) σ e) ws xs) : Step K κ σ0 H0 e0 (σ.set i (some (.ref a))) H e' := by
  obtain ⟨hi, np, rfl⟩ := setOwn_inv h
  have R := s.rel
  have hi' : i < σ.length := by rw [← R.len]; exact hi
  have sub : ∀ b, OwnAt (σ.set i (some (.ref a))) (e.set i (some (.own false xs))) b → OwnAt σ e b ∨ b = a := fun b ⟨j, p, ys, h1, h2⟩ => by
    by_cases hj : i = j
    · subst hj; rw [set_at hi'] at h2; cases h2; exact .inr rfl
    · rw [getset_ne hj] at h1 h2; exact .inl ⟨j, p, ys, h1, h2⟩
  have na : ∀ (j : Nat) (p : Bool) (ys : List D), e[j]? = some (some (SV.own p ys)) → σ[j]? ≠ some (some (V.ref a)) := fun j p ys h1 h2 => by
    obtain ⟨b, ls, k1, _, k3, _⟩ := RF.own j p ys h1
    rw [h2] at k1; cases k1
    exact k3 (.inr rfl)
  have av : ∀ b, AO κ (σ.set i (some (.ref a))) (e.set i (some (.own false xs))) b → AO (κ.plus a) σ e b ∨ Fre H b := fun b z => by
    rcases z with z | z
    · exact .inl (.inl (.inl z))
    · rcases sub b z with z | z
      · exact .inl (.inr z)
      · exact .inl (.inl (.inr z))
  refine ⟨⟨by rw [List.length_set, List.length_set]; exact R.len, fun j y z => ?_, fun j p ys z => ?_, fun j k p q xs' ys b h1 h2 h3 h4 => ?_, R.av, R.g⟩, s.ext, fun b z => ?_, fun j ys z => ?_⟩
  · have hj : i ≠ j := fun y => by subst y; rw [set_at hi] at z; cases z
    rw [getset_ne hj] at z
    obtain ⟨w, k1, k2⟩ := RF.dat j y z
    exact ⟨w, by rw [getset_ne hj]; exact k1, k2.avoid av⟩
  · by_cases hj : i = j
    · subst hj; rw [set_at hi] at z; cases z
      exact ⟨a, ws, set_at hi', ha, hA, r.avoid av⟩
    · rw [getset_ne hj] at z
      obtain ⟨b, ls, k1, k2, k3, k4⟩ := RF.own j p ys z
      exact ⟨b, ls, by rw [getset_ne hj]; exact k1, k2, fun y => k3 (.inl y), k4.avoid av⟩
  · by_cases hj : i = j
    · subst hj
      rw [set_at hi'] at h3; cases h3
      by_cases hk : i = k
      · exact hk
      · rw [getset_ne hk] at h2 h4
        exact (na k q ys h2 h4).elim
    · rw [getset_ne hj] at h1 h3
      by_cases hk : i = k
      · subst hk
        rw [set_at hi'] at h4; cases h4
        exact (na j p xs' h1 h3).elim
      · rw [getset_ne hk] at h2 h4
        exact R.inj j k p q xs' ys b h1 h2 h3 h4
  · rcases sub b z with z | z
    · exact s.own b z
    · subst z; exact .inr hf
  · obtain ⟨⟨zs, k1⟩, k2⟩ := s.pin j ys z
    have hj : i ≠ j := fun y => by subst y; exact np zs k1
    rw [getset_ne hj, getset_ne hj]
    exact ⟨⟨zs, k1⟩, k2⟩
end
/-- the same but at the places of S -/
def Agree (S : List Nat) (σ σ' : St) : Prop := σ'.length = σ.length ∧ ∀ i, i ∉ S → σ'[i]? = σ[i]?
theorem Agree.refl (S : List Nat) (σ : St) : Agree S σ σ := ⟨rfl, fun _ _ => rfl⟩
theorem Agree.app {S T : List Nat} {σ σ1 σ2 : St} (a : Agree S σ σ1) (b : Agree T σ1 σ2) : Agree (S ++ T) σ σ2 :=
  ⟨b.1.trans a.1, fun i h => (b.2 i fun z => h (List.mem_append_right _ z)).trans (a.2 i fun z => h (List.mem_append_left _ z))⟩
theorem Agree.set (σ : St) (i : Nat) (x : Option V) : Agree [i] σ (σ.set i x) := ⟨List.length_set, fun j h => List.getElem?_set_ne fun z => h (by subst z; exact List.mem_cons_self)⟩
/-- the reading of a target; S: its places -/
def tG (K : PySem.W.Frag) (κ : Kt) (S : List Nat) (b : D → En → Option En) : TG := fun v σ H Q => ∃ e d e', Rel K κ σ H e ∧ Rp K H (AO κ σ e) v d ∧ b d e = some e' ∧ ∀ σ', Step K κ σ H e σ' H e' → Agree S σ σ' → Q σ' H
def tGs (K : PySem.W.Frag) (κ : Kt) (S : List Nat) (b : List D → En → Option En) : TGs := fun vs σ H Q => ∃ e ds e', Rel K κ σ H e ∧ RpAll K H (AO κ σ e) vs ds ∧ b ds e = some e' ∧ ∀ σ', Step K κ σ H e σ' H e' → Agree S σ σ' → Q σ' H
def bNil : List D → En → Option En
  | [], e => some e
  | _ :: _, _ => none
def bCons (b : D → En → Option En) (bs : List D → En → Option En) : List D → En → Option En
  | [], _ => none
  | d :: ds, e => (b d e).bind (bs ds)
def bTup (n : Nat) (bs : List D → En → Option En) : D → En → Option En
  | .tuple ds, e => if ds.length = n then bs ds e else none
  | .list ds, e => if ds.length = n then bs ds e else none
  | _, _ => none
section
variable {X : Cx} {κ : Kt} {W : WX} {pos : Pos} {a t : Expr} {es : List Expr} {b : D → En → Option En} {bs : List D → En → Option En} {S T : List Nat}
theorem pg_imp {g g' : TG} (h : PG X t g) (i : ∀ v σ H Q, g' v σ H Q → g v σ H Q) : PG X t g' := ⟨fun pins s σ H v u Q I r q => h.run pins s σ H v u Q I r (i v σ H Q q)⟩
theorem pgs_imp {g g' : TGs} (h : PGs X es g) (i : ∀ v σ H Q, g' v σ H Q → g v σ H Q) : PGs X es g' := ⟨fun pins s σ H v u Q I r q => h.run pins s σ H v u Q I r (i v σ H Q q)⟩
theorem eg_name {i : Nat} {x : Str} (hN : X.N.Nodup) (hi : X.N[i]? = some x) (hx : Loc X.env.scope x) (hf : X.fn x = true ∨ X.env.scope.names.lookup x = some .local) : PG X (.Name x pos) (tG X.K κ [i] (setD i)) :=
  pg_imp (pg_name hN hi hx hf) fun v σ H Q ⟨e, d, e', R, r, hb, q⟩ => q _ (setD_step R hb r) (.set _ _ _)
theorem egs_nil : PGs X [] (tGs X.K κ [] bNil) := pgs_imp pgs_nil fun vs σ H Q ⟨e, ds, e', R, r, hb, q⟩ => by
  cases r with
  | nil => cases hb; exact ⟨rfl, q σ (.refl R) (.refl _ _)⟩
  | cons _ _ => cases hb
theorem egs_cons (h1 : PG X t (tG X.K κ S b)) (h2 : PGs X es (tGs X.K κ T bs)) (hs : (assignEach (t :: es) X.env).map (·.2) = assign t X.env :: (assignEach es X.env).map (·.2)) : PGs X (t :: es) (tGs X.K κ (S ++ T) (bCons b bs)) :=
  pgs_imp (pgs_cons h1 h2 hs) fun vs σ H Q ⟨e, ds, e', R, r, hb, q⟩ => by
    cases r with
    | nil => cases hb
    | cons r0 rr =>
      obtain ⟨e1, h1, h2⟩ := Option.bind_eq_some_iff.mp hb
      exact ⟨_, _, rfl, e, _, e1, R, r0, h1, fun σ1 s1 a1 => ⟨e1, _, e', s1.rel, s1.rpAll rr, h2, fun σ2 s2 a2 => q σ2 (s1.trans s2) (a1.app a2)⟩⟩
theorem eg_tup {k n : Nat} (hc : X.calm = true) (h : PGs X es (tGs X.K κ S bs)) (hn : (assignEach es X.env).length = n) (hst : (assignEach es X.env).findIdx? (·.1) = none) : PG X (.Tuple es k pos) (tG X.K κ S (bTup n bs)) := by
  have g1 := pg_tup (k := k) (pos := pos) hc h hn hst
  have g2 := pg_lst (k := k) (pos := pos) hc h hn hst
  refine ⟨fun pins s σ H v u Q I r ⟨e, d, e', R, rp, hb, q⟩ => ?_⟩
  cases d with
  | tuple ds =>
    have hb : (if ds.length = n then bs ds e else none) = some e' := hb
    by_cases hl : ds.length = n
    · rw [if_pos hl] at hb
      cases rp with
      | tup h1 ra => exact g1.run pins s σ H _ u Q I r ⟨_, _, rfl, h1.sq, by rw [ra.length]; exact hl, e, ds, e', R, ra, hb, q⟩
    · rw [if_neg hl] at hb; cases hb
  | list ds =>
    have hb : (if ds.length = n then bs ds e else none) = some e' := hb
    by_cases hl : ds.length = n
    · rw [if_pos hl] at hb
      cases rp with
      | lst h1 ra => exact g2.run pins s σ H _ u Q I r ⟨_, _, rfl, h1.sq, by rw [ra.length]; exact hl, e, ds, e', R, ra, hb, q⟩
    · rw [if_neg hl] at hb; cases hb
  | _ => cases hb
end
end Fw
namespace Fw
open PySem PySem.Spec L2

section
variable {X : Cx} {κ : Kt} {W : WX} {pos : Pos} {a c t : Expr} {es : List Expr} {fa fc : En → EOut Ref} {f g : En → SOut} {st : Stmt} {sts : List Stmt}
def sNil : En → SOut := fun e => .nx e
def sSeq (f g : En → SOut) : En → SOut := fun e => (f e).bind g
theorem es_nil : PSs X [] (tS X.K κ W sNil) := pss_imp pss_nil fun D σ H ⟨e, R, h⟩ => h σ H (.refl R)
theorem es_cons (h1 : PS X st (tS X.K κ W f)) (h2 : PSs X sts (tS X.K κ W g)) : PSs X (st :: sts) (tS X.K κ W (sSeq f g)) :=
  pss_imp (pss_cons h1 h2) fun D σ H ⟨e, R, h⟩ => ⟨e, R, (ssat_bind h).mono (fun e1 h σ1 H1 s => tS_from s h) (fun _ _ h => h) (fun _ h => h) (fun _ h => h) fun _ _ h => h⟩
def sPass : En → SOut := fun e => .nx e
theorem es_pass : PS X (.Pass pos) (tS X.K κ W sPass) := ps_imp ps_pass fun D σ H ⟨e, R, h⟩ => h σ H (.refl R)
theorem es_break : PS X (.Break pos) (tS X.K κ W fun e => .bk e) := ps_imp ps_break fun D σ H ⟨e, R, h⟩ => h σ H (.refl R)
theorem es_continue : PS X (.Continue pos) (tS X.K κ W fun e => .ct e) := ps_imp ps_continue fun D σ H ⟨e, R, h⟩ => h σ H (.refl R)
def sExpr (fa : En → EOut Ref) : En → SOut := fun e => (fa e).then fun _ e1 => .nx e1
theorem es_expr (ha : PE X a (tE X.K κ W fa)) (hs : swapsWith a none pos.line X.env = pure false) : PS X (.Expr a pos) (tS X.K κ W (sExpr fa)) :=
  ps_imp (ps_expr ha hs) fun D σ H ⟨e, R, h⟩ => ⟨e, R, (ssat_then h).mono (fun r e1 h v H1 s _ => h σ H1 s) fun c e' h => h.ex⟩
def immS (r : Ref) (k : D → SOut) : SOut := match r with
  | .imm d => k d
  | .slot _ => .bad
@[simp] theorem immS_imm (d : D) (k : D → SOut) : immS (.imm d) k = k d := rfl
theorem ssat_imm {r : Ref} {k : D → SOut} {n : En → Prop} {q : RV → En → Prop} {b c : En → Prop} {E : Nat → En → Prop} (h : ssat (immS r k) n q b c E) : ∃ d, r = .imm d ∧ ssat (k d) n q b c E := by
  cases r with
  | imm d => exact ⟨d, rfl, h⟩
  | slot i => exact h.elim
def sRet (fa : En → EOut Ref) : En → SOut := fun e => (fa e).then fun r e1 => immS r fun d => .rt (.d d) e1
theorem es_ret (ha : PE X a (tE X.K κ W fa)) : PS X (.Return (some a) pos) (tS X.K κ W (sRet fa)) :=
  ps_imp (ps_ret ha) fun D σ H ⟨e, R, h⟩ => ⟨e, R, (ssat_then h).mono (fun r e1 h v H1 s rr => by
    obtain ⟨d, rfl, h⟩ := ssat_imm h
    exact h σ v H1 s rr) fun c e' h => h.ex⟩
def sRetF (ff : En → EOut (List D)) : En → SOut := fun e => (ff e).then fun xs e1 => .rt (.own xs) e1
theorem es_retF {ff : En → EOut (List D)} (ha : PE X a (tF X.K κ W ff)) : PS X (.Return (some a) pos) (tS X.K κ W (sRetF ff)) :=
  ps_imp (ps_ret ha) fun D σ H ⟨e, R, h⟩ => ⟨e, R, (ssat_then h).mono (fun xs e1 h v H1 s rr => h σ v H1 s rr) fun c e' h => h.ex⟩
def sRetN : En → SOut := fun e => .rt (.d .none) e
theorem es_retN : PS X (.Return none pos) (tS X.K κ W sRetN) := ps_imp ps_retN fun D σ H ⟨e, R, h⟩ => h σ .non H (.refl R) .non
/-- the slot is set, or nothing fits -/
def optS (o : Option En) (k : En → SOut) : SOut := match o with
  | some e => k e
  | none => .bad
@[simp] theorem optS_some (e : En) (k : En → SOut) : optS (some e) k = k e := rfl
@[simp] theorem optS_none (k : En → SOut) : optS none k = .bad := rfl
theorem ssat_opt {o : Option En} {k : En → SOut} {n : En → Prop} {q : RV → En → Prop} {b c : En → Prop} {E : Nat → En → Prop} (h : ssat (optS o k) n q b c E) : ∃ d, o = some d ∧ ssat (k d) n q b c E := by
  cases o with
  | none => exact h.elim
  | some d => exact ⟨d, rfl, h⟩
/-- target = value -/
def sAsg (b : D → En → Option En) (fa : En → EOut Ref) : En → SOut := fun e => (fa e).then fun r e1 => immS r fun d => optS (b d e1) .nx
theorem es_asg {S : List Nat} {b : D → En → Option En} (ha : PE X a (tE X.K κ W fa)) (hg : PG X t (tG X.K κ S b)) (hs : swapsWithSole [t] a pos.line X.env = pure false) (hw : swappedStores [t] a X.env = pure none) (h1 : (assignEach [t] X.env).map (·.2) = [assign t X.env]) :
    PS X (.Assign [t] a pos) (tS X.K κ W (sAsg b fa)) :=
  ps_imp (ps_asg ha hg hs hw h1) fun D σ H ⟨e, R, h⟩ => ⟨e, R, (ssat_then h).mono (fun r e1 h v H1 s rr => by
    obtain ⟨d, rfl, h⟩ := ssat_imm h
    obtain ⟨e2, hb, h⟩ := ssat_opt h
    exact ⟨e1, d, e2, s.rel, rr, hb, fun σ2 s2 _ => h σ2 H1 (s.trans s2)⟩) fun c e' h => h.ex⟩
/-- name = a new list, its own -/
def sAsgF (i : Nat) (ff : En → EOut (List D)) : En → SOut := fun e => (ff e).then fun xs e1 => optS (setOwn i xs e1) .nx
theorem es_setF {i : Nat} {x : Str} {p : Pos} {ff : En → EOut (List D)} (hN : X.N.Nodup) (hi : X.N[i]? = some x) (hx : Loc X.env.scope x) (ha : PE X a (tF X.K κ W ff)) (hs : swapsWith a (some (.Name x p)) pos.line X.env = pure false) (hf : X.fn x = true ∨ X.env.scope.names.lookup x = some .local) :
    PS X (.Assign [.Name x p] a pos) (tS X.K κ W (sAsgF i ff)) :=
  ps_imp (ps_set hN hi hx ha hs hf) fun D σ H ⟨e, R, h⟩ => ⟨e, R, (ssat_then h).mono (fun xs e1 h v H1 s rr => by
    obtain ⟨e2, hb, h⟩ := ssat_opt h
    obtain ⟨q, ws, rfl, h1, h2, h3, h4⟩ := rr
    exact h _ H1 (setOwn_step s hb (fun z => R.av q z h1) h1 h2 h3 h4)) fun c e' h => h.ex⟩

/-! several values at once, new lists among them -/
inductive AK where
  | v (f : En → EOut Ref)
  | o (f : En → EOut (List D))
inductive WV where
  | d (x : D)
  | fr (xs : List D)
def dAs : List AK → En → EOut (List WV)
  | [], e => .ok [] e
  | .v f :: r, e => (f e).bind fun x e1 => match x with
    | .imm d => (dAs r e1).bind fun ws e2 => .ok (.d d :: ws) e2
    | .slot _ => .bad
  | .o f :: r, e => (f e).bind fun xs e1 => (dAs r e1).bind fun ws e2 => .ok (.fr xs :: ws) e2
abbrev Kt.plusL (κ : Kt) (S : List Addr) : Kt := { κ with A := fun b => κ.A b ∨ b ∈ S }
/-- S: the new lists, in order -/
def RpWs (K : PySem.W.Frag) (M : AS) (H : Hp) : List WV → List V → List Addr → Prop
  | [], vs, S => vs = [] ∧ S = []
  | .d x :: ws, vs, S => ∃ v vr, vs = v :: vr ∧ Rp K H M v x ∧ RpWs K M H ws vr S
  | .fr xs :: ws, vs, S => ∃ a vr Sr ls, vs = .ref a :: vr ∧ S = a :: Sr ∧ a ∉ Sr ∧ H a = some (.lst ls) ∧ RpAll K H M ls xs ∧ RpWs K M H ws vr Sr
theorem RpWs.avoid {K : PySem.W.Frag} {M M' : AS} {H : Hp} (s : ∀ a, M' a → M a ∨ Fre H a) : ∀ {ws : List WV} {vs : List V} {S : List Addr}, RpWs K M H ws vs S → RpWs K M' H ws vs S
  | [], _, _, h => h
  | .d x :: ws, _, _, ⟨v, vr, h1, h2, h3⟩ => ⟨v, vr, h1, h2.avoid s, h3.avoid s⟩
  | .fr xs :: ws, _, _, ⟨a, vr, Sr, ls, h1, h2, h3, h4, h5, h6⟩ => ⟨a, vr, Sr, ls, h1, h2, h3, h4, h5.avoid s, h6.avoid s⟩
def EndAs (K : PySem.W.Frag) (κ : Kt) (σ : St) (H : Hp) (e : En) (H' : Hp) (e' : En) (ws : List WV) (vs : List V) : Prop :=
  Step K κ σ H e σ H' e' ∧ ∃ S : List Addr, (∀ a ∈ S, Fre H a) ∧ Rel K (κ.plusL S) σ H' e' ∧ RpWs K (AO (κ.plusL S) σ e') H' ws vs S
def tAs (K : PySem.W.Frag) (κ : Kt) (W : WX) (l : List AK) : TA := fun σ H Q => ∃ e, Rel K κ σ H e ∧
  sat (dAs l e) (fun ws e' => ∀ vs H', EndAs K κ σ H e H' e' ws vs → Q vs H') (PX K κ W σ H e)
/-- each of the expressions is what is told, whatever others own -/
def AKs (X : Cx) (G : Hp → Prop) (ec : Nat → Addr) (W : WX) : List Expr → List AK → Prop
  | [], l => l = []
  | a :: es, .v f :: l => (∀ A, PE X a (tE X.K ⟨A, G, ec⟩ W f)) ∧ AKs X G ec W es l
  | a :: es, .o f :: l => (∀ A, PE X a (tF X.K ⟨A, G, ec⟩ W f)) ∧ AKs X G ec W es l
  | _ :: _, [] => False
theorem step_less {K : PySem.W.Frag} {κ : Kt} {A : AS} {σ σ1 : St} {H H1 : Hp} {e e1 : En} (s : Step K { κ with A := A } σ H e σ1 H1 e1) (h : ∀ a, κ.A a → A a) : Step K κ σ H e σ1 H1 e1 := by
  obtain ⟨R, x, o, p⟩ := s
  have av : ∀ a, AO κ σ1 e1 a → AO { κ with A := A } σ1 e1 a ∨ Fre H1 a := fun a z => .inl (z.imp (h a) id)
  exact ⟨⟨R.len, fun i y z => let ⟨v, h1, h2⟩ := R.dat i y z; ⟨v, h1, h2.avoid av⟩, fun i p xs z => let ⟨a, vs, h1, h2, h3, h4⟩ := R.own i p xs z; ⟨a, vs, h1, h2, fun y => h3 (h a y), h4.avoid av⟩, R.inj, fun a z => R.av a (h a z), R.g⟩, x, o, p⟩
theorem as_step {K : PySem.W.Frag} : ∀ {es : List Expr} {l : List AK} {κ : Kt}, (hK : X.K = K) → AKs X κ.G κ.ec W es l → (∀ (b : Expr) (r : List Expr), starEach (b :: r) X.env = (false, eval b X.env) :: starEach r X.env ∨ b ∉ es) → PA X es (tAs K κ W l)
  | [], l, κ, hK, h, hs => by
    cases h
    exact pa_imp pa_nil fun σ H Q ⟨e, R, h⟩ => h [] H ⟨.refl R, [], fun _ z => by simp at z, rel_congr R (fun a => by simp) rfl, rfl, rfl⟩
  | a :: es, .v f :: l, κ, hK, h, hs => by
    have ih := as_step (κ := κ) hK h.2 (fun b r => (hs b r).imp id fun z y => z (List.mem_cons_of_mem _ y))
    refine pa_imp (pa_cons (h.1 κ.A) ih ((hs a es).resolve_right fun z => z List.mem_cons_self)) fun σ H Q ⟨e, R, h⟩ => ?_
    subst hK
    refine ⟨e, R, (sat_bind h).mono (fun r e1 h v H1 s1 r1 => ?_) fun c e' h => h⟩
    cases r with
    | slot i => exact h.elim
    | imm d =>
      refine ⟨e1, s1.rel, (sat_bind h).mono (fun ws e2 h vs H2 ⟨s2, S, k1, k2, k3⟩ => h (v :: vs) H2 ⟨s1.trans s2, S, fun a z => s1.ext.fre (k1 a z), k2, v, vs, rfl, ?_, k3⟩) fun c e' h => h.from s1⟩
      refine Rp.go s2.ext.ao (fun a z => ?_) r1
      rcases z with (z | z) | z
      · exact .inl (.inl z)
      · exact .inr (k1 a z)
      · exact (s2.own a z).imp .inr id
  | a :: es, .o f :: l, κ, hK, h, hs => by
    have ih : ∀ b : Addr, PA X es (tAs K (κ.plus b) W l) := fun b => as_step (κ := κ.plus b) hK h.2 (fun b r => (hs b r).imp id fun z y => z (List.mem_cons_of_mem _ y))
    have ih2 : PA X es (fun σ H Q => ∃ b : Addr, tAs K (κ.plus b) W l σ H Q) := ⟨fun pos pins s σ H Q I ⟨b, q⟩ => (ih b).run pos pins s σ H Q I q⟩
    refine pa_imp (pa_cons (h.1 κ.A) ih2 ((hs a es).resolve_right fun z => z List.mem_cons_self)) fun σ H Q ⟨e, R, h⟩ => ?_
    subst hK
    refine ⟨e, R, (sat_bind h).mono (fun xs e1 h v H1 s1 rr => ?_) fun c e' h => h⟩
    obtain ⟨b, ls, rfl, h1, h2, h3, h4⟩ := rr
    refine ⟨b, e1, h3, (sat_bind h).mono (fun ws e2 h vs H2 ⟨s2, S, k1, k2, k3⟩ => ?_) fun c e' h od H' z s2 => h od H' z (s1.trans (step_less s2 fun a z => .inl z))⟩
    have s2' : Step X.K κ σ H1 e1 σ H2 e2 := step_less s2 fun a z => .inl z
    have nb : b ∉ S := fun z => k1 b z _ h2 nt_lst
    have hb2 : H2 b = some (.lst ls) := (s2.ext b _ h2 nt_lst).1 fun ⟨i, p, ys, z1, z2⟩ => by
      obtain ⟨b', _, m1, _, m3, _⟩ := h3.own i p ys z1
      rw [z2] at m1; cases m1
      exact m3 (.inr rfl)
    refine h (.ref b :: vs) H2 ⟨s1.trans s2', b :: S, fun a z => ?_, rel_congr k2 (fun a => ?_) rfl, b, vs, S, ls, rfl, rfl, nb, hb2, ?_, k3.avoid fun a z => .inl ?_⟩
    · rcases List.mem_cons.mp z with z | z
      · exact z ▸ h1
      · exact s1.ext.fre (k1 a z)
    · show (κ.A a ∨ a ∈ b :: S) ↔ ((κ.A a ∨ a = b) ∨ a ∈ S)
      rw [List.mem_cons]
      exact or_assoc.symm
    · refine RpAll.go s2.ext.ao (fun a z => ?_) h4
      rcases z with (z | z) | z
      · exact .inl (.inl (.inl z))
      · rcases List.mem_cons.mp z with z | z
        · exact .inl (.inl (.inr z))
        · exact .inr (k1 a z)
      · exact (s2.own a z).imp .inr id
    · rcases z with (z | z) | z
      · exact .inl (.inl (.inl z))
      · rcases List.mem_cons.mp z with z | z
        · exact .inl (.inl (.inr z))
        · exact .inl (.inr z)
      · exact .inr z
  | _ :: _, [], _, _, h, _ => h.elim
theorem RpWs.length {K : PySem.W.Frag} {M : AS} {H : Hp} : ∀ {ws : List WV} {vs : List V} {S : List Addr}, RpWs K M H ws vs S → vs.length = ws.length
  | [], _, _, h => by rw [h.1]; rfl
  | .d x :: ws, _, _, ⟨v, vr, h1, _, h⟩ => by rw [h1]; exact congrArg (· + 1) h.length
  | .fr xs :: ws, _, _, ⟨a, vr, Sr, ls, h1, _, _, _, _, h⟩ => by rw [h1]; exact congrArg (· + 1) h.length
theorem RpWs.same {K : PySem.W.Frag} {M : AS} {H H' : Hp} (s : Same H H') : ∀ {ws : List WV} {vs : List V} {S : List Addr}, RpWs K M H ws vs S → RpWs K M H' ws vs S
  | [], _, _, h => h
  | .d x :: ws, _, _, ⟨v, vr, h1, h2, h⟩ => ⟨v, vr, h1, h2.ext s.ext, h.same s⟩
  | .fr xs :: ws, _, _, ⟨a, vr, Sr, ls, h1, h2, h3, h4, h5, h⟩ => ⟨a, vr, Sr, ls, h1, h2, h3, s a _ h4, h5.ext s.ext, h.same s⟩
theorem EndAs.vals {K : PySem.W.Frag} {κ : Kt} {σ : St} {H H' : Hp} {e e' : En} {ws : List WV} {vs : List V} (h : EndAs K κ σ H e H' e' ws vs) : vs.length = ws.length := by
  obtain ⟨_, S, _, _, h⟩ := h
  exact h.length
theorem EndAs.new {K : PySem.W.Frag} {κ : Kt} {σ : St} {H H' : Hp} {e e' : En} {ws : List WV} {vs : List V} {p : Addr} {o : HO} (h : EndAs K κ σ H e H' e' ws vs) (g : GOk κ.G) (hp : H' p = none) : EndAs K κ σ H e (upd H' p o) e' ws vs := by
  obtain ⟨s, S, k1, k2, h⟩ := h
  have gg : κ.G (upd H' p o) := g.new s.rel.g hp
  exact ⟨s.trans (.same s.rel (.new hp) gg), S, k1, (Step.same k2 (.new hp) gg).rel, h.same (.new hp)⟩
/-- the values into the slots, one after another -/
def setWs : List Nat → List WV → En → Option En
  | [], [], e => some e
  | i :: is, .d x :: ws, e => (setD i x e).bind (setWs is ws)
  | i :: is, .fr xs :: ws, e => (setOwn i xs e).bind (setWs is ws)
  | _, _, _ => none
def setVs : List Nat → List V → St → St
  | i :: is, v :: vs, σ => setVs is vs (σ.set i (some v))
  | _, _, σ => σ
theorem setWs_step {K : PySem.W.Frag} {κ : Kt} {σ0 : St} {H0 H : Hp} {e0 : En} : ∀ {is : List Nat} {ws : List WV} {vs : List V} {σ : St} {e e' : En} {S : List Addr}, setWs is ws e = some e' → Step K κ σ0 H0 e0 σ H e → (∀ a ∈ S, Fre H0 a) → (∀ a ∈ S, ¬ κ.A a) →
    Rel K (κ.plusL S) σ H e → RpWs K (AO (κ.plusL S) σ e) H ws vs S → Step K κ σ0 H0 e0 (setVs is vs σ) H e'
  | [], [], vs, σ, e, e', S, h, s, f, fA, R, r => by
    cases h
    obtain ⟨rfl, rfl⟩ := r
    exact s
  | i :: is, .d x :: ws, vs, σ, e, e', S, h, s, f, fA, R, r => by
    obtain ⟨e1, h1, h2⟩ := Option.bind_eq_some_iff.mp h
    obtain ⟨v, vr, rfl, r1, r2⟩ := r
    have s1 : Step K (κ.plusL S) σ H e (σ.set i (some v)) H e1 := setD_step R h1 r1
    have s2 : Step K κ σ H e (σ.set i (some v)) H e1 := step_less s1 fun a z => .inl z
    show Step K κ σ0 H0 e0 (setVs is vr (σ.set i (some v))) H e'
    exact setWs_step h2 (s.trans s2) f fA s1.rel (r2.avoid s1.ao)
  | i :: is, .fr xs :: ws, vs, σ, e, e', S, h, s, f, fA, R, r => by
    obtain ⟨e1, h1, h2⟩ := Option.bind_eq_some_iff.mp h
    obtain ⟨a, vr, Sr, ls, rfl, rfl, na, ha, r1, r2⟩ := r
    have fa := f a List.mem_cons_self
    have nA := fA a List.mem_cons_self
    -- a becomes the slot's; the others stay apart
    have Rr : Rel K (κ.plusL Sr) σ H e := (step_less (κ := κ.plusL Sr) (Step.refl R) fun b z => z.imp id (List.mem_cons_of_mem _)).rel
    have nAr : ¬ (κ.plusL Sr).A a := fun z => z.elim nA na
    have RF : Rel K ((κ.plusL Sr).plus a) σ H e := rel_congr R (fun b => by
      show ((κ.A b ∨ b ∈ Sr) ∨ b = a) ↔ (κ.A b ∨ b ∈ a :: Sr)
      rw [List.mem_cons, or_assoc, or_comm (a := b ∈ Sr)]) rfl
    have av : ∀ b, AO ((κ.plusL Sr).plus a) σ e b → AO (κ.plusL (a :: Sr)) σ e b ∨ Fre H b := fun b z => .inl (z.imp (fun y => by
      show κ.A b ∨ b ∈ a :: Sr
      rw [List.mem_cons]
      rcases y with (y | y) | y
      · exact .inl y
      · exact .inr (.inr y)
      · exact .inr (.inl y)) id)
    have s0 : Step K (κ.plusL Sr) σ0 H0 e0 σ H e := ⟨Rr, s.ext, s.own, s.pin⟩
    have s1 : Step K (κ.plusL Sr) σ0 H0 e0 (σ.set i (some (.ref a))) H e1 := setOwn_step s0 h1 nAr fa ha RF (r1.avoid av)
    have s2 : Step K κ σ0 H0 e0 (σ.set i (some (.ref a))) H e1 := step_less s1 fun b z => .inl z
    show Step K κ σ0 H0 e0 (setVs is vr (σ.set i (some (.ref a)))) H e'
    refine setWs_step h2 s2 (fun b z => f b (List.mem_cons_of_mem _ z)) (fun b z => fA b (List.mem_cons_of_mem _ z)) s1.rel (r2.avoid fun b z => ?_)
    obtain ⟨hi, np, he⟩ := setOwn_inv h1
    subst he
    rcases z with z | ⟨j, p, ys, z1, z2⟩
    · exact .inl (.inl (z.imp id (List.mem_cons_of_mem _)))
    · by_cases hj : i = j
      · subst hj
        rw [set_at (by rw [← R.len]; exact hi)] at z2
        cases z2
        exact .inl (.inl (.inr List.mem_cons_self))
      · rw [getset_ne hj] at z1 z2
        exact .inl (.inr ⟨j, p, ys, z1, z2⟩)
  | [], _ :: _, _, _, _, _, _, h, _, _, _, _, _ => by cases h
  | _ :: _, [], _, _, _, _, _, h, _, _, _, _, _ => by cases h
def sPar (is : List Nat) (l : List AK) : En → SOut := fun e => (dAs l e).then fun ws e1 => optS (setWs is ws e1) .nx
theorem setWs_length : ∀ {is : List Nat} {ws : List WV} {e e2 : En}, setWs is ws e = some e2 → ws.length = is.length
  | [], [], _, _, _ => rfl
  | [], _ :: _, _, _, h => by cases h
  | _ :: _, [], _, _, h => by cases h
  | i :: is, .d x :: ws, e, e2, h => by
    obtain ⟨e1, h1, h2⟩ := Option.bind_eq_some_iff.mp h
    exact congrArg (· + 1) (setWs_length h2)
  | i :: is, .fr x :: ws, e, e2, h => by
    obtain ⟨e1, h1, h2⟩ := Option.bind_eq_some_iff.mp h
    exact congrArg (· + 1) (setWs_length h2)
theorem end_step {K : PySem.W.Frag} {σ : St} {H H1 : Hp} {e e1 e2 : En} {is : List Nat} {ws : List WV} {vs : List V} (R : Rel K κ σ H e) (E : EndAs K κ σ H e H1 e1 ws vs) (hb : setWs is ws e1 = some e2) : vs.length = is.length ∧ Step K κ σ H e (setVs is vs σ) H1 e2 := by
  have hl := E.vals
  obtain ⟨s, S, k1, k2, k3⟩ := E
  exact ⟨hl.trans (setWs_length hb), setWs_step hb s k1 (fun a z y => R.av a y (k1 a z)) k2 k3⟩
theorem par_step {D : Ends} {σ : St} {H : Hp} {is : List Nat} {l : List AK} (h : tS X.K κ W (sPar is l) D σ H) : tAs X.K κ W l σ H (fun vs H1 => vs.length = is.length ∧ D.nx (setVs is vs σ) H1) := by
  obtain ⟨e, R, h⟩ := h
  refine ⟨e, R, (ssat_then h).mono (fun ws e1 h vs H1 E => ?_) fun c e' h => h.ex⟩
  obtain ⟨e2, hb, h⟩ := ssat_opt h
  obtain ⟨h1, h2⟩ := end_step R E hb
  exact ⟨h1, h _ H1 h2⟩
theorem es_par {i j : Nat} {x y : Str} {b : Expr} {px py pt : Pos} {kt k2 pt2} {l : List AK} (hc : X.calm = true) (hN : X.N.Nodup) (hi : X.N[i]? = some x) (hj : X.N[j]? = some y) (hij : i ≠ j)
    (hx : X.env.scope.names.lookup x = some .local) (hy : X.env.scope.names.lookup y = some .local) (ha : PA X [a, b] (tAs X.K κ W l))
    (hw : swappedStores [.Tuple [.Name x px, .Name y py] kt pt] (.Tuple [a, b] k2 pt2) X.env = pure (some [x, y]))
    (hs : swapsWithSole [.Tuple [.Name x px, .Name y py] kt pt] (.Tuple [a, b] k2 pt2) pos.line X.env = pure false) :
    PS X (.Assign [.Tuple [.Name x px, .Name y py] kt pt] (.Tuple [a, b] k2 pt2) pos) (tS X.K κ W (sPar [i, j] l)) :=
  ps_imp (ps_par hc hN hi hj hij hx hy ha hw hs) fun D σ H h => by
    obtain ⟨e, R, h⟩ := par_step h
    exact ⟨e, R, h.mono (fun ws e1 h vs H1 E => match vs, h vs H1 E with
      | [v, w], ⟨_, h⟩ => ⟨v, w, rfl, h⟩) fun c e' h => h⟩
theorem es_par3 {i j m : Nat} {x y z : Str} {b c : Expr} {px py pz pt : Pos} {kt k2 pt2} {l : List AK} (hc : X.calm = true) (hN : X.N.Nodup) (hi : X.N[i]? = some x) (hj : X.N[j]? = some y) (hm : X.N[m]? = some z) (hij : i ≠ j) (him : i ≠ m) (hjm : j ≠ m)
    (hx : X.env.scope.names.lookup x = some .local) (hy : X.env.scope.names.lookup y = some .local) (hz : X.env.scope.names.lookup z = some .local) (ha : PA X [a, b, c] (tAs X.K κ W l))
    (hw : swappedStores [.Tuple [.Name x px, .Name y py, .Name z pz] kt pt] (.Tuple [a, b, c] k2 pt2) X.env = pure (some [x, y, z]))
    (hs : swapsWithSole [.Tuple [.Name x px, .Name y py, .Name z pz] kt pt] (.Tuple [a, b, c] k2 pt2) pos.line X.env = pure false) :
    PS X (.Assign [.Tuple [.Name x px, .Name y py, .Name z pz] kt pt] (.Tuple [a, b, c] k2 pt2) pos) (tS X.K κ W (sPar [i, j, m] l)) :=
  ps_imp (ps_par3 hc hN hi hj hm hij him hjm hx hy hz ha hw hs) fun D σ H h => by
    obtain ⟨e, R, h⟩ := par_step h
    exact ⟨e, R, h.mono (fun ws e1 h vs H1 E => match vs, h vs H1 E with
      | [u, v, w], ⟨_, h⟩ => ⟨u, v, w, rfl, h⟩) fun c e' h => h⟩
/-- a tuple is made and taken apart: targets are names -/
def gNames : List Nat → TGs
  | [] => gNil
  | i :: is => gCons (gName i) (gNames is)
theorem gNames_set : ∀ {is : List Nat} {vs : List V} {σ : St} {H : Hp} {Q : St → Hp → Prop}, vs.length = is.length → Q (setVs is vs σ) H → gNames is vs σ H Q
  | [], [], _, _, _, _, h => ⟨rfl, h⟩
  | i :: is, v :: vs, σ, H, Q, hl, h => ⟨v, vs, rfl, gNames_set (is := is) (by simpa using hl) h⟩
  | [], _ :: _, _, _, _, hl, _ => by simp at hl
  | _ :: _, [], _, _, _, hl, _ => by simp at hl
theorem es_parT (gk : GOk κ.G) {ts : List Expr} {k k2 : Nat} {pt p2 : Pos} {is : List Nat} {l : List AK} (ha : PA X es (tAs X.K κ W l)) (hg : PG X (.Tuple ts k pt) (gTup X.K is.length (gNames is))) (hlen : is.length ≤ sizeLine)
    (hs : swapsWithSole [.Tuple ts k pt] (.Tuple es k2 p2) pos.line X.env = pure false) (hw : swappedStores [.Tuple ts k pt] (.Tuple es k2 p2) X.env = pure none) (h1 : (assignEach [.Tuple ts k pt] X.env).map (·.2) = [assign (.Tuple ts k pt) X.env]) :
    PS X (.Assign [.Tuple ts k pt] (.Tuple es k2 p2) pos) (tS X.K κ W (sPar is l)) := by
  refine ps_imp (ps_asg (pe_tup ha) hg hs hw h1) fun D σ H h => ?_
  obtain ⟨e, R, h⟩ := h
  refine ⟨e, R, (ssat_then h).mono (fun ws e1 h vs H1 E => ?_) fun c e' h => h.ex⟩
  obtain ⟨e2, hb, h⟩ := ssat_opt h
  obtain ⟨h1, _⟩ := end_step R E hb
  refine ⟨by rw [h1]; exact hlen, fun p hp => ⟨p, vs, rfl, SqT.of upd_same, h1, gNames_set h1 ?_⟩⟩
  exact h _ _ (end_step R (E.new gk hp) hb).2
end
end Fw
namespace Fw
open PySem PySem.Spec L2

section
variable {X : Cx} {κ : Kt} {W : WX} {pos : Pos} {a c t : Expr} {es : List Expr} {fa fc fb : En → EOut Ref} {f g : En → SOut} {st : Stmt} {sts sts2 : List Stmt}
/-! ### if, while, for -/
def truS (r : Ref) (e : En) (k : Bool → SOut) : SOut := match r.rd e with
  | some d => match truthD d with
    | some b => k b
    | none => .bad
  | none => .bad
theorem ssat_tru {r : Ref} {e : En} {k : Bool → SOut} {n : En → Prop} {q : RV → En → Prop} {b c : En → Prop} {E : Nat → En → Prop} (h : ssat (truS r e k) n q b c E) : ∃ d t, r.rd e = some d ∧ truthD d = some t ∧ ssat (k t) n q b c E := by
  unfold truS at h
  cases q1 : r.rd e with
  | none => rw [q1] at h; exact h.elim
  | some d =>
    rw [q1] at h
    dsimp only at h
    cases q2 : truthD d with
    | none => rw [q2] at h; exact h.elim
    | some t => rw [q2] at h; exact ⟨d, t, rfl, q2, h⟩
def sIf (fc : En → EOut Ref) (f g : En → SOut) : En → SOut := fun e => (fc e).then fun r e1 => truS r e1 fun b => bif b then f e1 else g e1
theorem es_if (hc : PT X c (tT X.K κ W fc)) (h1 : PSs X sts (tS X.K κ W f)) (h2 : PSs X sts2 (tS X.K κ W g)) : PS X (.If c sts sts2 pos) (tS X.K κ W (sIf fc f g)) :=
  ps_imp (ps_if hc h1 h2) fun D σ H ⟨e, R, h⟩ => ⟨e, R, (ssat_then h).mono (fun r e1 h => by
    obtain ⟨d, b, q1, q2, h⟩ := ssat_tru h
    refine ⟨d, b, q1, q2, fun H1 s => ?_⟩
    cases b with
    | true => exact iteT (tS_from s h)
    | false => exact iteF (tS_from s h)) fun c e' h => h.ex⟩
/-- at most n turns -/
def whileL (fc : En → EOut Ref) (f : En → SOut) : Nat → En → SOut
  | 0, _ => .bad
  | n + 1, e => (fc e).then fun r e1 => truS r e1 fun b => bif b then (match f e1 with
    | .nx e2 => whileL fc f n e2
    | .ct e2 => whileL fc f n e2
    | .bk e2 => .nx e2
    | .rt v e2 => .rt v e2
    | .exc k e2 => .exc k e2
    | .bad => .bad) else .nx e1
theorem es_while {n : Nat} (hp : PassesOwn (model X.prog X.w) X.A X.env X.xe) (hc : PT X c (tT X.K κ W fc)) (h1 : PSs X sts (tS X.K κ W f)) : PS X (.While c sts [] pos) (tS X.K κ W (whileL fc f n)) := by
  refine ps_imp (ps_while hp hc h1) fun D σ H ⟨e, R, h⟩ => ?_
  refine ⟨fun m σ1 H1 => ∃ e1, Step X.K κ σ H e σ1 H1 e1 ∧ ssat (whileL fc f m e1) (PN X.K κ σ H e D.nx) (PR X.K κ σ H e D.rt) (PN X.K κ σ H e D.bk) (PN X.K κ σ H e D.ct) (PXs X.K κ W σ H e), ⟨n, e, .refl R, h⟩, ?_⟩
  rintro m σ1 H1 ⟨e1, s1, h⟩
  cases m with
  | zero => exact h.elim
  | succ m =>
    refine ⟨e1, s1.rel, (ssat_then h).mono (fun r e2 h => ?_) fun c e' h => (h.from s1).ex⟩
    obtain ⟨d, b, q1, q2, h⟩ := ssat_tru h
    refine ⟨d, b, q1, q2, fun H2 s2 => ?_⟩
    cases b with
    | false => exact iteF (h σ1 H2 (s1.trans s2))
    | true =>
      refine iteT ⟨fun σ3 H3 => ∃ e3, Step X.K κ σ H e σ3 H3 e3 ∧ ssat (whileL fc f m e3) (PN X.K κ σ H e D.nx) (PR X.K κ σ H e D.rt) (PN X.K κ σ H e D.bk) (PN X.K κ σ H e D.ct) (PXs X.K κ W σ H e), fun σ3 H3 q => ⟨m, Nat.lt_succ_self m, q⟩, e2, s2.rel, ?_⟩
      have h : ssat (match f e2 with
        | .nx e2 => whileL fc f m e2
        | .ct e2 => whileL fc f m e2
        | .bk e2 => .nx e2
        | .rt v e2 => .rt v e2
        | .exc k e2 => .exc k e2
        | .bad => .bad) (PN X.K κ σ H e D.nx) (PR X.K κ σ H e D.rt) (PN X.K κ σ H e D.bk) (PN X.K κ σ H e D.ct) (PXs X.K κ W σ H e) := h
      have s12 := s1.trans s2
      cases q : f e2 with
      | nx e3 => rw [q] at h; exact fun σ3 H3 s3 => ⟨e3, s12.trans s3, h⟩
      | ct e3 => rw [q] at h; exact fun σ3 H3 s3 => ⟨e3, s12.trans s3, h⟩
      | bk e3 => rw [q] at h; exact fun σ3 H3 s3 => h σ3 H3 (s12.trans s3)
      | rt v e3 => rw [q] at h; exact PR.from s12 h
      | exc k e3 => rw [q] at h; exact PXs.from s12 h
      | bad => rw [q] at h; exact h.elim

/-! what is walked -/
/-- from the state on, J gives the items -/
structure Gives (K : PySem.W.Frag) (κ : Kt) (σ : St) (H0 : Hp) (e0 : En) (J : It) (items : List D) : Prop where
  go : ∀ H i, Ext (OwnAt σ e0) H0 H → i < items.length → J.go i H
  stop : ∀ H, Ext (OwnAt σ e0) H0 H → J.stop items.length H
  yld : ∀ H i x H' (M : AS) d, Ext (OwnAt σ e0) H0 H → J.yld i H x H' → items[i]? = some d → κ.G H → (∀ a, M a → ¬ Fre H a) → (∀ a, M a → AO κ σ e0 a ∨ Fre H0 a) → Same H H' ∧ κ.G H' ∧ Rp K H' M x d
def tI (K : PySem.W.Frag) (κ : Kt) (W : WX) (f : En → EOut (List D)) : TI := fun σ H R => ∃ e, Rel K κ σ H e ∧
  sat (f e) (fun ds e' => ∀ J H', Step K κ σ H e σ H' e' → Gives K κ σ H' e' J ds → R J H') (PX K κ W σ H e)
def forL (b : D → En → Option En) (f : En → SOut) : List D → En → SOut
  | [], e => .nx e
  | d :: ds, e => optS (b d e) fun e1 => match f e1 with
    | .nx e2 => forL b f ds e2
    | .ct e2 => forL b f ds e2
    | .bk e2 => .nx e2
    | .rt v e2 => .rt v e2
    | .exc k e2 => .exc k e2
    | .bad => .bad
def sFor (fi : En → EOut (List D)) (b : D → En → Option En) (f : En → SOut) : En → SOut := fun e => (fi e).then fun ds e1 => forL b f ds e1
theorem es_for {S : List Nat} {iter tg : Expr} {fi : En → EOut (List D)} {b : D → En → Option En} (hp : PassesOwn (model X.prog X.w) X.A X.env X.xe) (hc : X.calm = true) (hi : PI X tg iter (tI X.K κ W fi)) (hg : PG X tg (tG X.K κ S b)) (hb : PSs X sts (tS X.K κ W f))
    (hs : ∀ x, foldedSetIterable iter X.env x = pure x) : PS X (.For tg iter sts [] pos) (tS X.K κ W (sFor fi b f)) := by
  refine ps_imp (ps_for hp hc hi hg hb hs) fun D σ H ⟨e, R, h⟩ => ?_
  refine ⟨e, R, (ssat_then h).mono (fun ds e1 h J H1 s1 G => ?_) fun c e' h => h.ex⟩
  refine ⟨fun i m σ2 H2 => m = ds.length - i ∧ i ≤ ds.length ∧ ∃ e2, Step X.K κ σ H1 e1 σ2 H2 e2 ∧ ssat (forL b f (ds.drop i) e2) (PN X.K κ σ H e D.nx) (PR X.K κ σ H e D.rt) (PN X.K κ σ H e D.bk) (PN X.K κ σ H e D.ct) (PXs X.K κ W σ H e), ⟨ds.length, by simp, Nat.zero_le _, e1, .refl s1.rel, by rw [List.drop_zero]; exact h⟩, ?_⟩
  rintro i m σ2 H2 ⟨rfl, hi, e2, s2, h⟩
  by_cases hlt : i < ds.length
  · refine .inr ⟨G.go H2 i s2.ext hlt, fun σ3 H3 => i + 1 ≤ ds.length ∧ ∃ e3, Step X.K κ σ H1 e1 σ3 H3 e3 ∧ ssat (forL b f (ds.drop (i + 1)) e3) (PN X.K κ σ H e D.nx) (PR X.K κ σ H e D.rt) (PN X.K κ σ H e D.bk) (PN X.K κ σ H e D.ct) (PXs X.K κ W σ H e), fun σ3 H3 ⟨q1, q2⟩ => ⟨ds.length - (i + 1), by omega, rfl, q1, q2⟩, fun x H3 y => ?_⟩
    obtain ⟨sm, g3, rp⟩ := G.yld H2 i x H3 (AO κ σ2 e2) ds[i] s2.ext y (List.getElem?_eq_getElem hlt) s2.rel.g (fun _ z => AO.notFre s2.rel z) (fun a z => s2.ao a z)
    have s3 : Step X.K κ σ2 H2 e2 σ2 H3 e2 := .same s2.rel sm g3
    rw [List.drop_eq_getElem_cons hlt] at h
    obtain ⟨e3, hb3, h⟩ := ssat_opt h
    refine ⟨e2, _, e3, s3.rel, rp, hb3, fun σ4 s4 _ => ?_⟩
    have s14 := (s2.trans s3).trans s4
    refine ⟨e3, s4.rel, ?_⟩
    cases q : f e3 with
    | nx e5 => rw [q] at h; exact fun σ5 H5 s5 => ⟨hlt, e5, s14.trans s5, h⟩
    | ct e5 => rw [q] at h; exact fun σ5 H5 s5 => ⟨hlt, e5, s14.trans s5, h⟩
    | bk e5 => rw [q] at h; exact fun σ5 H5 s5 => h σ5 H5 (s1.trans (s14.trans s5))
    | rt v e5 => rw [q] at h; exact PR.from (s1.trans s14) h
    | exc k e5 => rw [q] at h; exact PXs.from (s1.trans s14) h
    | bad => rw [q] at h; exact h.elim
  · have e : i = ds.length := by omega
    subst e
    rw [List.drop_length] at h
    exact .inl ⟨G.stop H2 s2.ext, h σ2 H2 (s1.trans s2)⟩

/-! sources -/
def itemsD : D → Option (List D)
  | .list xs => some xs
  | .tuple xs => some xs
  | _ => none
def iSeq (fa : En → EOut Ref) : En → EOut (List D) := fun e => (fa e).bind fun r e1 => match r with
  | .imm d => match itemsD d with
    | some xs => .ok xs e1
    | none => .bad
  | .slot _ => .bad
theorem pi_imp {tg iter : Expr} {w w' : TI} (h : PI X tg iter w) (i : ∀ σ H R, w' σ H R → w σ H R) : PI X tg iter w' := ⟨fun pins s σ H R I q => h.run pins s σ H R I (i σ H R q)⟩
theorem pi_or {tg iter : Expr} {w w' : TI} (h : PI X tg iter w) (h' : PI X tg iter w') : PI X tg iter (fun σ H R => w σ H R ∨ w' σ H R) := ⟨fun pins s σ H R I q => q.elim (h.run pins s σ H R I) (h'.run pins s σ H R I)⟩
theorem FL.keep {K : PySem.W.Frag} {H H' : Hp} {M M' : AS} {a : Addr} {xs : List V} (h : FL K H M a xs) (e : Ext M' H H') (s : ∀ b, M' b → M b) : SqL K H' a xs := by
  rcases h with ⟨h, n⟩ | h
  · exact .inl (rd_ext e h nt_lst fun z => n (s a z))
  · exact .inr h
theorem FT.keep {K : PySem.W.Frag} {H H' : Hp} {M M' : AS} {a : Addr} {xs : List V} (h : FT K H M a xs) (e : Ext M' H H') (s : ∀ b, M' b → M b) : SqT K H' a xs := by
  rcases h with ⟨h, n⟩ | h
  · exact .inl (rd_ext e h nt_tup fun z => n (s a z))
  · exact .inr h
theorem gives_list {σ : St} {H0 : Hp} {e0 : En} {p : Addr} {xs : List V} {ds : List D} (R : Rel X.K κ σ H0 e0) (h : FL X.K H0 (AO κ σ e0) p xs) (ra : RpAll X.K H0 (AO κ σ e0) xs ds) : Gives X.K κ σ H0 e0 (Itl X.K p) ds where
  go := fun H i x hi => walk_list.goes i H (by rw [ra.length]; exact hi) (h.keep x fun _ z => .inr z)
  stop := fun H x => by rw [← ra.length]; exact walk_list.stops H (h.keep x fun _ z => .inr z)
  yld := fun H i x H' M d ex y hd hG hM hs => by
    have hi : i < xs.length := by rw [ra.length]; exact (List.getElem?_eq_some_iff.mp hd).1
    obtain ⟨rfl, hx⟩ := walk_list.yields i H x H' hi (h.keep ex fun _ z => .inr z) y
    obtain ⟨v, h1, h2⟩ := ra.get hd
    rw [hx] at h1; cases h1
    exact ⟨.refl _, hG, h2.go ex.ao hs⟩
theorem gives_tup {σ : St} {H0 : Hp} {e0 : En} {p : Addr} {xs : List V} {ds : List D} (R : Rel X.K κ σ H0 e0) (h : FT X.K H0 (AO κ σ e0) p xs) (ra : RpAll X.K H0 (AO κ σ e0) xs ds) : Gives X.K κ σ H0 e0 (Itt X.K p) ds where
  go := fun H i x hi => walk_tup.goes i H (by rw [ra.length]; exact hi) (h.keep x fun _ z => .inr z)
  stop := fun H x => by rw [← ra.length]; exact walk_tup.stops H (h.keep x fun _ z => .inr z)
  yld := fun H i x H' M d ex y hd hG hM hs => by
    have hi : i < xs.length := by rw [ra.length]; exact (List.getElem?_eq_some_iff.mp hd).1
    obtain ⟨rfl, hx⟩ := walk_tup.yields i H x H' hi (h.keep ex fun _ z => .inr z) y
    obtain ⟨v, h1, h2⟩ := ra.get hd
    rw [hx] at h1; cases h1
    exact ⟨.refl _, hG, h2.go ex.ao hs⟩
theorem ei_seq {tg : Expr} (ha : PE X a (tE X.K κ W fa)) : PI X tg a (tI X.K κ W (iSeq fa)) := by
  have h1 := pi_list (tg := tg) ha
  have h2 := pi_tup (tg := tg) ha
  -- the two rules read the same expression: joined at the value
  refine ⟨fun pins s σ H R I ⟨e, Rl, h⟩ => ?_⟩
  cases q : fa e with
  | bad => unfold iSeq at h; rw [q] at h; exact h.elim
  | exc c e' => unfold iSeq at h; rw [q] at h; exact h1.run pins s σ H R I ⟨e, Rl, by rw [q]; exact h⟩
  | ok r e1 =>
    unfold iSeq at h
    rw [q] at h
    cases r with
    | slot i => exact h.elim
    | imm d =>
      cases d with
      | list ds =>
        refine h1.run pins s σ H R I ⟨e, Rl, ?_⟩
        rw [q]
        intro v H1 s1 rr
        cases rr with
        | lst hl ra => exact ⟨_, rfl, ⟨_, hl.sq⟩, h _ H1 s1 (gives_list s1.rel hl ra)⟩
      | tuple ds =>
        refine h2.run pins s σ H R I ⟨e, Rl, ?_⟩
        rw [q]
        intro v H1 s1 rr
        cases rr with
        | tup hl ra => exact ⟨_, rfl, ⟨_, hl.sq⟩, h _ H1 s1 (gives_tup s1.rel hl ra)⟩
      | _ => exact h.elim
/-- lo, lo + 1, .. below hi -/
def rangeD (lo hi : Int) : List D := (List.range (hi - lo).toNat).map fun i => .int (lo + (i : Nat))
def iRng1 (fa : En → EOut Ref) : En → EOut (List D) := fun e => (fa e).bind fun r e1 => rdK r e1 fun d => match d with
  | .int hi => if -(2 ^ 62) ≤ hi ∧ hi < 2 ^ 62 then .ok (rangeD 0 hi) e1 else .bad
  | _ => .bad
def iRng2 (fa fb : En → EOut Ref) : En → EOut (List D) := fun e => (fa e).bind fun r e1 => (fb e1).bind fun r2 e2 => rdK r e2 fun d => rdK r2 e2 fun d2 => match d, d2 with
  | .int lo, .int hi => if -(2 ^ 62) ≤ lo ∧ lo < 2 ^ 62 ∧ -(2 ^ 62) ≤ hi ∧ hi < 2 ^ 62 then .ok (rangeD lo hi) e2 else .bad
  | _, _ => .bad
theorem gives_range {σ : St} {H0 : Hp} {e0 : En} {lo hi : Int} : Gives X.K κ σ H0 e0 (Itr lo (hi - lo).toNat) (rangeD lo hi) where
  go := fun H i _ h => walk_range.goes i H (by simpa [rangeD] using h) trivial
  stop := fun H _ => by
    have : (rangeD lo hi).length = (hi - lo).toNat := by simp [rangeD]
    rw [this]; exact walk_range.stops H trivial
  yld := fun H i x H' M d _ y hd hG _ _ => by
    have hi : i < (hi - lo).toNat := by
      have := (List.getElem?_eq_some_iff.mp hd).1
      simpa [rangeD] using this
    obtain ⟨rfl, rfl⟩ := walk_range.yields i H x H' hi trivial y
    have : d = .int (lo + (i : Nat)) := by
      simp [rangeD, List.getElem?_map, List.getElem?_range hi] at hd
      exact hd.symm
    subst this
    exact ⟨.refl _, hG, .int _⟩
theorem ei_range1 {tg : Expr} {p : Pos} (hg : Gl X "range") (hm : X.mg "range" = none) (ha : PE X a (tE X.K κ W fa)) (hs : starEach [a] X.env = [(false, eval a X.env)]) : PI X tg (.Call (.Name "range" p) [a] [] pos) (tI X.K κ W (iRng1 fa)) := by
  refine pi_imp (pi_range1 hg hm (pa_cons ha pa_nil hs) hs) fun σ H R ⟨e, Rl, h⟩ => ⟨e, Rl, (sat_bind h).mono (fun r e1 h v H1 s1 r1 => ?_) fun c e' h => h⟩
  obtain ⟨d, q1, h⟩ := sat_rd h
  have rd := r1.rd s1.rel q1
  cases d with
  | int hi =>
    obtain ⟨q2, h⟩ := sat_if h
    refine ⟨hi, by rw [rd.int], q2.1, q2.2, ?_⟩
    have g : Gives X.K κ σ H1 e1 (Itr 0 (hi - 0).toNat) (rangeD 0 hi) := gives_range
    rw [Int.sub_zero] at g
    exact h _ H1 s1 g
  | _ => exact h.elim
theorem ei_range2 {tg b : Expr} {p : Pos} (hg : Gl X "range") (hm : X.mg "range" = none) (ha : PE X a (tE X.K κ W fa)) (hb : PE X b (tE X.K κ W fb)) (h1 : starEach [a, b] X.env = (false, eval a X.env) :: starEach [b] X.env) (h2 : starEach [b] X.env = [(false, eval b X.env)]) : PI X tg (.Call (.Name "range" p) [a, b] [] pos) (tI X.K κ W (iRng2 fa fb)) := by
  refine pi_imp (pi_range2 hg hm (pa_cons ha (pa_cons hb pa_nil h2) h1) (by rw [h1, h2]) h2) fun σ H R ⟨e, Rl, h⟩ => ⟨e, Rl, (sat_bind h).mono (fun r e1 h v H1 s1 r1 => ⟨e1, s1.rel, (sat_bind h).mono (fun r' e2 h w H2 s2 r2 => ?_) fun c e' h => h.from s1⟩) fun c e' h => h⟩
  obtain ⟨d, q1, h⟩ := sat_rd h
  obtain ⟨d2, q2, h⟩ := sat_rd h
  have rd1 := (r1.step s2).rd s2.rel q1
  have rd2 := r2.rd s2.rel q2
  cases d with
  | int lo =>
    cases d2 with
    | int hi =>
      obtain ⟨q3, h⟩ := sat_if h
      exact ⟨lo, hi, by rw [rd1.int, rd2.int], q3, h _ H2 (s1.trans s2) gives_range⟩
    | _ => exact h.elim
  | _ => exact h.elim
end
end Fw
namespace Fw
open PySem PySem.Spec L2

/-! ### comprehensions -/
def wipeE (e : En) : List Nat → En
  | [] => e
  | v :: vs => (wipeE e vs).set v none
/-- the slots vs as in e, the others as in e' -/
def unwipe (e e' : En) : List Nat → En
  | [] => e'
  | v :: vs => (unwipe e e' vs).set v (e.getD v none)
def noOwn (e : En) (vs : List Nat) : Bool := vs.all fun v => decide (v < e.length) && (match e[v]? with
  | some (some (.own _ _)) => false
  | _ => true)
/-- nothing is let out -/
def noX {α : Type} (x : EOut α) : EOut α := match x with
  | .exc _ _ => .bad
  | y => y
def tests (ft : Option (En → EOut Ref)) (e : En) : EOut Bool := match ft with
  | none => .ok true e
  | some f => (noX (f e)).bind fun r e1 => truK r e1 fun b => .ok b e1
def compL (vs : List Nat) (b : D → En → Option En) (ft : Option (En → EOut Ref)) (fe : En → EOut Ref) : List D → List D → En → EOut (List D)
  | [], acc, e => .ok acc e
  | d :: ds, acc, e => match b d e with
    | none => .bad
    | some e1 => (tests ft e1).bind fun t e2 => bif t then (noX (fe e2)).bind fun r e3 => (match r with
        | .imm x => if acc.length < sizeLine then compL vs b ft fe ds (acc ++ [x]) (wipeE e3 vs) else .bad
        | .slot _ => .bad)
      else compL vs b ft fe ds acc (wipeE e2 vs)
def dComp (fi : En → EOut (List D)) (vs : List Nat) (b : D → En → Option En) (ft : Option (En → EOut Ref)) (fe : En → EOut Ref) : En → EOut Ref := fun e => (fi e).bind fun ds e1 =>
  if noOwn e1 vs = true then (compL vs b ft fe ds [] (wipeE e1 vs)).bind fun acc e2 => .ok (.imm (.list acc)) (unwipe e1 e2 vs) else .bad
theorem wipeE_length (e : En) : ∀ vs, (wipeE e vs).length = e.length
  | [] => rfl
  | v :: vs => by unfold wipeE; rw [List.length_set, wipeE_length e vs]
theorem unwipe_length (e e' : En) : ∀ vs, (unwipe e e' vs).length = e'.length
  | [] => rfl
  | v :: vs => by unfold unwipe; rw [List.length_set, unwipe_length e e' vs]
theorem wipeE_in {e : En} {i : Nat} : ∀ {vs : List Nat}, i ∈ vs → ∀ s, (wipeE e vs)[i]? ≠ some (some s)
  | v :: vs, h, s => by
    unfold wipeE
    by_cases hv : v = i
    · subst hv
      by_cases hl : v < (wipeE e vs).length
      · rw [List.getElem?_set_self hl]; intro z; cases z
      · rw [List.getElem?_eq_none (by simpa using hl)]; intro z; cases z
    · rw [List.getElem?_set_ne hv]
      rcases List.mem_cons.mp h with z | z
      · exact absurd z.symm hv
      · exact wipeE_in z s
theorem wipeE_out {e : En} {i : Nat} : ∀ {vs : List Nat}, i ∉ vs → (wipeE e vs)[i]? = e[i]?
  | [], _ => rfl
  | v :: vs, h => by
    unfold wipeE
    rw [List.getElem?_set_ne fun (z : v = i) => h (by subst z; exact List.mem_cons_self)]
    exact wipeE_out fun z => h (List.mem_cons_of_mem _ z)
theorem unwipe_out {e e' : En} {i : Nat} : ∀ {vs : List Nat}, i ∉ vs → (unwipe e e' vs)[i]? = e'[i]?
  | [], _ => rfl
  | v :: vs, h => by
    unfold unwipe
    rw [List.getElem?_set_ne fun (z : v = i) => h (by subst z; exact List.mem_cons_self)]
    exact unwipe_out fun z => h (List.mem_cons_of_mem _ z)
theorem unwipe_in {e e' : En} {i : Nat} (hl : i < e'.length) (he : e.length = e'.length) : ∀ {vs : List Nat}, i ∈ vs → (unwipe e e' vs)[i]? = e[i]?
  | v :: vs, h => by
    unfold unwipe
    by_cases hv : v = i
    · subst hv
      rw [List.getElem?_set_self (by rw [unwipe_length]; exact hl), List.getD_eq_getElem?_getD, List.getElem?_eq_getElem (by omega)]
      rfl
    · rw [List.getElem?_set_ne hv]
      rcases List.mem_cons.mp h with z | z
      · exact absurd z.symm hv
      · exact unwipe_in hl he z
theorem wipe_in {σ : St} {i : Nat} : ∀ {vs : List Nat}, i ∈ vs → ∀ s, (wipe σ vs)[i]? ≠ some (some s)
  | v :: vs, h, s => by
    unfold wipe
    by_cases hv : v = i
    · subst hv
      by_cases hl : v < (wipe σ vs).length
      · rw [List.getElem?_set_self hl]; intro z; cases z
      · rw [List.getElem?_eq_none (by simpa using hl)]; intro z; cases z
    · rw [List.getElem?_set_ne hv]
      rcases List.mem_cons.mp h with z | z
      · exact absurd z.symm hv
      · exact wipe_in z s
theorem noOwn_not {e : En} {vs : List Nat} (h : noOwn e vs = true) {i : Nat} (hi : i ∈ vs) : i < e.length ∧ ∀ (p : Bool) (xs : List D), e[i]? ≠ some (some (SV.own p xs)) := by
  have := List.all_eq_true.mp h i hi
  simp only [Bool.and_eq_true, decide_eq_true_eq] at this
  refine ⟨this.1, fun p xs z => ?_⟩
  rw [z] at this
  exact Bool.noConfusion this.2
section
variable {K : PySem.W.Frag} {κ : Kt} {σ : St} {H H1 : Hp} {e e1 : En} {vs : List Nat}
theorem wipe_own {a : Addr} (h : OwnAt (wipe σ vs) (wipeE e vs) a) : OwnAt σ e a := by
  obtain ⟨i, p, xs, h1, h2⟩ := h
  have hi : i ∉ vs := fun z => wipeE_in z _ h1
  rw [wipeE_out hi] at h1
  rw [wipe_out hi] at h2
  exact ⟨i, p, xs, h1, h2⟩
/-- the block's names forgotten -/
theorem wipe_rel (R : Rel K κ σ H e) (vs : List Nat) : Rel K κ (wipe σ vs) H (wipeE e vs) where
  len := by rw [wipeE_length, wipe_length]; exact R.len
  dat := fun i x h => by
    have hi : i ∉ vs := fun z => wipeE_in z _ h
    rw [wipeE_out hi] at h
    rw [wipe_out hi]
    obtain ⟨v, h1, h2⟩ := R.dat i x h
    exact ⟨v, h1, h2.avoid fun a z => .inl (z.imp id wipe_own)⟩
  own := fun i p xs h => by
    have hi : i ∉ vs := fun z => wipeE_in z _ h
    rw [wipeE_out hi] at h
    rw [wipe_out hi]
    obtain ⟨a, ws, h1, h2, h3, h4⟩ := R.own i p xs h
    exact ⟨a, ws, h1, h2, h3, h4.avoid fun a z => .inl (z.imp id wipe_own)⟩
  inj := fun i j p q xs ys a h1 h2 h3 h4 => by
    have hi : i ∉ vs := fun z => wipeE_in z _ h1
    have hj : j ∉ vs := fun z => wipeE_in z _ h2
    rw [wipeE_out hi] at h1
    rw [wipeE_out hj] at h2
    rw [wipe_out hi] at h3
    rw [wipe_out hj] at h4
    exact R.inj i j p q xs ys a h1 h2 h3 h4
  av := R.av
  g := R.g
/-- where no own list is hidden, the wiped state has all own lists -/
theorem wipe_own' (hn : noOwn e vs = true) {a : Addr} (h : OwnAt σ e a) : OwnAt (wipe σ vs) (wipeE e vs) a := by
  obtain ⟨i, p, xs, h1, h2⟩ := h
  have hi : i ∉ vs := fun z => (noOwn_not hn z).2 p xs h1
  exact ⟨i, p, xs, by rw [wipeE_out hi]; exact h1, by rw [wipe_out hi]; exact h2⟩
/-- between the block's turns: the new list at Dl holds acc; M0: the lists that were slots' own at H1 -/
structure CInv (K : PySem.W.Frag) (κ : Kt) (M0 : AS) (w : En) (H1 : Hp) (Dl : Addr) (acc : List D) (σ : St) (H : Hp) (e : En) : Prop where
  rel : Rel K (κ.plus Dl) σ H e
  ext : Ext (fun a => M0 a ∨ a = Dl) H1 H
  own : ∀ a, OwnAt σ e a → M0 a ∨ Fre H1 a
  pin : ∀ (i : Nat) (xs : List D), w[i]? = some (some (SV.own true xs)) → ∃ ys, e[i]? = some (some (SV.own true ys))
  lst : ∃ ls, H Dl = some (.lst ls) ∧ RpAll K H (AO (κ.plus Dl) σ e) ls acc
variable {M0 : AS} {w : En} {Dl : Addr} {acc : List D}
theorem CInv.step {σ' : St} {H' : Hp} {e' : En} (c : CInv K κ M0 w H1 Dl acc σ H e) (s : Step K (κ.plus Dl) σ H e σ' H' e') : CInv K κ M0 w H1 Dl acc σ' H' e' where
  rel := s.rel
  ext := c.ext.trans s.ext fun a z => (c.own a z).imp .inl id
  own := fun a z => by
    rcases s.own a z with z | z
    · exact c.own a z
    · exact .inr (c.ext.fre z)
  pin := fun i xs h => by
    obtain ⟨ys, h1⟩ := c.pin i xs h
    obtain ⟨h2, _⟩ := s.pin i ys h1
    exact h2
  lst := by
    obtain ⟨ls, h1, h2⟩ := c.lst
    refine ⟨ls, (s.ext _ _ h1 nt_lst).1 fun ⟨i, p, ys, z1, z2⟩ => ?_, s.rpAll h2⟩
    obtain ⟨b, _, m1, _, m3, _⟩ := c.rel.own i p ys z1
    rw [z2] at m1; cases m1
    exact m3 (.inr rfl)
theorem CInv.app {v : V} {x : D} (c : CInv K κ M0 w H1 Dl acc σ H e) (g : GOk κ.G) (r : Rp K H (AO (κ.plus Dl) σ e) v x) :
    ∃ ls, H Dl = some (.lst ls) ∧ ls.length = acc.length ∧ CInv K κ M0 w H1 Dl (acc ++ [x]) σ (upd H Dl (.lst (ls ++ [v]))) e := by
  obtain ⟨ls, h1, h2⟩ := c.lst
  refine ⟨ls, h1, h2.length, ?_⟩
  have x1 : Ext (fun a => a = Dl) H (upd H Dl (.lst (ls ++ [v]))) := fun a o ho no => by
    by_cases ha : a = Dl
    · subst ha; exact ⟨fun z => absurd rfl z, _, upd_same, nt_lst⟩
    · rw [upd_ne ha]; exact ⟨fun _ => ho, o, ho, no⟩
  have x2 : Ext (AO (κ.plus Dl) σ e) H (upd H Dl (.lst (ls ++ [v]))) := x1.mono fun a z => .inl (.inr z)
  have R := c.rel
  refine ⟨⟨R.len, fun i y z => let ⟨u, k1, k2⟩ := R.dat i y z; ⟨u, k1, k2.ext x2⟩, fun i p xs z => ?_, R.inj, fun a z y => R.av a z (x1.fre y), g.set R.g h1⟩, fun a o ho no => ?_, c.own, c.pin, ls ++ [v], upd_same, (h2.ext x2).app (.cons (r.ext x2) .nil)⟩
  · obtain ⟨a, ws, k1, k2, k3, k4⟩ := R.own i p xs z
    exact ⟨a, ws, k1, by rw [upd_ne fun y => k3 (.inr y)]; exact k2, k3, k4.ext x2⟩
  · obtain ⟨k1, o', k2, k3⟩ := c.ext a o ho no
    refine ⟨fun z => ?_, (x1 a o' k2 k3).2⟩
    rw [upd_ne fun y => z (.inr y)]
    exact k1 z
theorem CInv.wipe {vs : List Nat} (c : CInv K κ M0 w H1 Dl acc σ H e) (hw : ∀ i ∈ vs, ∀ s, w[i]? ≠ some (some s)) : CInv K κ M0 w H1 Dl acc (L2.wipe σ vs) H (wipeE e vs) :=
  ⟨wipe_rel c.rel vs, c.ext, fun a z => c.own a (wipe_own z), fun i xs h => by
    have hi : i ∉ vs := fun z => hw i z _ h
    rw [wipeE_out hi]; exact c.pin i xs h, let ⟨ls, h1, h2⟩ := c.lst; ⟨ls, h1, h2.avoid fun a z => .inl (z.imp id wipe_own)⟩⟩
end
abbrev W0 : WX := fun _ _ _ _ => False
theorem sat_noX {α : Type} {x : EOut α} {P : α → En → Prop} {E E' : Nat → En → Prop} (h : sat (noX x) P E) : sat x P E' := by
  cases x with
  | ok a e => exact h
  | exc c e => exact h.elim
  | bad => exact h
/-- what the block's names held does not matter -/
theorem wipe_agree {S vs : List Nat} {σ σ2 : St} (hs : ∀ i ∈ S, i ∈ vs) (a : Agree S (L2.wipe σ vs) σ2) : L2.wipe σ2 vs = L2.wipe σ vs := by
  have hl : σ2.length = σ.length := by rw [a.1, wipe_length]
  refine List.ext_getElem? fun i => ?_
  by_cases hi : i ∈ vs
  · have none_of : ∀ τ : St, i < τ.length → (L2.wipe τ vs)[i]? = some none := fun τ ht => by
      cases q : (L2.wipe τ vs)[i]? with
      | none =>
        have := List.getElem?_eq_none_iff.mp q
        rw [wipe_length] at this
        omega
      | some o =>
        cases o with
        | none => rfl
        | some x => exact absurd q (wipe_in hi x)
    by_cases hlt : i < σ.length
    · rw [none_of σ hlt, none_of σ2 (by omega)]
    · rw [List.getElem?_eq_none (by rw [wipe_length]; omega), List.getElem?_eq_none (by rw [wipe_length]; omega)]
  · rw [wipe_out hi, a.2 i fun z => hi (hs i z)]
section
variable {X : Cx} {κ : Kt} {W : WX} {pos : Pos} {fe : En → EOut Ref} {fi : En → EOut (List D)} {ft : Option (En → EOut Ref)} {b : D → En → Option En}
def tTs (K : PySem.W.Frag) (κ : Kt) (ft : Option (En → EOut Ref)) : TT := match ft with
  | none => tYes
  | some f => tT K κ W0 f
/-- the comprehension's reading, from the pieces' (all of them for whatever others own) -/
theorem comp_step {S : List Nat} (g : GOk κ.G) {vs : List Nat} {te : TE} {tt : TT} {tg : TG} {σ : St} {H : Hp} {Q : VK}
    (hte : ∀ A σ H Q, tE X.K ⟨A, κ.G, κ.ec⟩ W0 fe σ H Q → te σ H Q) (htt : ∀ A σ H Q, tTs X.K ⟨A, κ.G, κ.ec⟩ ft σ H Q → tt σ H Q) (htg : ∀ A v σ H Q, tG X.K ⟨A, κ.G, κ.ec⟩ S b v σ H Q → tg v σ H Q) (hS : ∀ i ∈ S, i ∈ vs)
    (h : tE X.K κ W (dComp fi vs b ft fe) σ H Q) : tLc (tI X.K κ W fi) tg tt te vs σ H Q := by
  obtain ⟨e, R, h⟩ := h
  refine ⟨e, R, (sat_bind h).mono (fun ds e1 h J H1 s1 G => ?_) fun c e' h => h⟩
  obtain ⟨hn, h⟩ := sat_if h
  intro Dl hD
  have Re1 := s1.rel
  -- the block's entry
  have gD : κ.G (upd H1 Dl (.lst [])) := g.new Re1.g hD
  have R0 : Rel X.K (κ.plus Dl) σ (upd H1 Dl (.lst [])) e1 := plus_new Re1 hD nt_lst gD
  have c0 : CInv X.K κ (OwnAt σ e1) (wipeE e1 vs) H1 Dl [] (wipe σ vs) (upd H1 Dl (.lst [])) (wipeE e1 vs) :=
    ⟨wipe_rel R0 vs, (Same.new hD).ext, fun a z => .inl (wipe_own z), fun i xs z => ⟨xs, z⟩, [], upd_same, .nil⟩
  have hw : ∀ i ∈ vs, ∀ s, (wipeE e1 vs)[i]? ≠ some (some s) := fun i hi s => wipeE_in hi s
  have done : ∀ {acc : List D} {H' : Hp} {ew : En}, CInv X.K κ (OwnAt σ e1) (wipeE e1 vs) H1 Dl acc (wipe σ vs) H' ew →
      (∀ v H', Step X.K κ σ H e σ H' (unwipe e1 ew vs) → RpR X.K κ σ H' (unwipe e1 ew vs) (.imm (.list acc)) v → Q v H') → Q (.ref Dl) H' := fun {acc H' ew} c h => by
    have hlen : e1.length = ew.length := by
      have h1 := c.rel.len
      rw [wipe_length, ← Re1.len] at h1
      exact h1.symm
    have ewn : ∀ i ∈ vs, ∀ (s : SV), ew[i]? = some (some s) → ∃ v, (wipe σ vs)[i]? = some (some v) := fun i hi s z => by
      cases s with
      | d x => obtain ⟨v, k, _⟩ := c.rel.dat i x z; exact ⟨v, k⟩
      | own p xs => obtain ⟨a, _, k, _⟩ := c.rel.own i p xs z; exact ⟨_, k⟩
    have ewn : ∀ i ∈ vs, ∀ (s : SV), ew[i]? ≠ some (some s) := fun i hi s z => by
      obtain ⟨v, k⟩ := ewn i hi s z
      exact wipe_in hi v k
    -- own lists: those of the block's state
    have sub : ∀ a, OwnAt σ (unwipe e1 ew vs) a → OwnAt (wipe σ vs) ew a := fun a ⟨i, p, xs, z1, z2⟩ => by
      by_cases hi : i ∈ vs
      · obtain ⟨k1, k2⟩ := noOwn_not hn hi
        rw [unwipe_in (by omega) hlen hi] at z1
        exact absurd z1 (k2 p xs)
      · rw [unwipe_out hi] at z1
        exact ⟨i, p, xs, z1, by rw [wipe_out hi]; exact z2⟩
    have nD : ∀ a, OwnAt (wipe σ vs) ew a → a ≠ Dl := fun a ⟨i, p, xs, z1, z2⟩ => by
      obtain ⟨d, _, m1, _, m3, _⟩ := c.rel.own i p xs z1
      rw [z2] at m1; cases m1
      exact fun y => m3 (.inr y)
    have x1 : Ext (OwnAt σ e1) H1 H' := fun a o ho no => by
      obtain ⟨k1, k2⟩ := c.ext a o ho no
      exact ⟨fun z => k1 fun y => y.elim z (fun y => by subst y; rw [hD] at ho; cases ho), k2⟩
    have av1 : ∀ a, AO κ σ (unwipe e1 ew vs) a → AO κ σ e1 a ∨ Fre H1 a := fun a z => by
      rcases z with z | z
      · exact .inl (.inl z)
      · exact (c.own a (sub a z)).imp .inr id
    have av2 : ∀ a, AO κ σ (unwipe e1 ew vs) a → AO (κ.plus Dl) (wipe σ vs) ew a ∨ Fre H' a := fun a z => .inl (z.imp .inl (sub a))
    have sR : Rel X.K κ σ H' (unwipe e1 ew vs) := by
      refine ⟨by rw [unwipe_length, ← hlen]; exact Re1.len, fun i x z => ?_, fun i p xs z => ?_, fun i j p q xs ys a z1 z2 z3 z4 => ?_, fun a z y => Re1.av a z (x1.fre y), c.rel.g⟩
      · by_cases hi : i ∈ vs
        · rw [unwipe_in (by have := (noOwn_not hn hi).1; omega) hlen hi] at z
          obtain ⟨v, k1, k2⟩ := Re1.dat i x z
          exact ⟨v, k1, k2.go x1.ao av1⟩
        · rw [unwipe_out hi] at z
          obtain ⟨v, k1, k2⟩ := c.rel.dat i x z
          rw [wipe_out hi] at k1
          exact ⟨v, k1, k2.avoid av2⟩
      · have hi : i ∉ vs := fun hi => by
          rw [unwipe_in (by have := (noOwn_not hn hi).1; omega) hlen hi] at z
          exact (noOwn_not hn hi).2 p xs z
        rw [unwipe_out hi] at z
        obtain ⟨a, ws, k1, k2, k3, k4⟩ := c.rel.own i p xs z
        rw [wipe_out hi] at k1
        exact ⟨a, ws, k1, k2, fun y => k3 (.inl y), k4.avoid av2⟩
      · have hi : i ∉ vs := fun hi => by
          rw [unwipe_in (by have := (noOwn_not hn hi).1; omega) hlen hi] at z1
          exact (noOwn_not hn hi).2 p xs z1
        have hj : j ∉ vs := fun hj => by
          rw [unwipe_in (by have := (noOwn_not hn hj).1; omega) hlen hj] at z2
          exact (noOwn_not hn hj).2 q ys z2
        rw [unwipe_out hi] at z1
        rw [unwipe_out hj] at z2
        exact c.rel.inj i j p q xs ys a z1 z2 (by rw [wipe_out hi]; exact z3) (by rw [wipe_out hj]; exact z4)
    have s2 : Step X.K κ σ H1 e1 σ H' (unwipe e1 ew vs) := by
      refine ⟨sR, x1, fun a z => c.own a (sub a z), fun i xs z => ⟨?_, rfl⟩⟩
      have hi : i ∉ vs := fun hi => (noOwn_not hn hi).2 true xs z
      obtain ⟨ys, k⟩ := c.pin i xs (by rw [wipeE_out hi]; exact z)
      exact ⟨ys, by rw [unwipe_out hi]; exact k⟩
    obtain ⟨ls, k1, k2⟩ := c.lst
    refine h _ H' (s1.trans s2) (.lst (.inl ⟨.inl k1, fun z => ?_⟩) (k2.avoid av2))
    rcases z with z | z
    · exact Re1.av Dl z (.of_none hD)
    · exact nD Dl (sub Dl z) rfl
  refine ⟨fun i m H' => m = ds.length - i ∧ i ≤ ds.length ∧ ∃ acc ew, CInv X.K κ (OwnAt σ e1) (wipeE e1 vs) H1 Dl acc (wipe σ vs) H' ew ∧
      sat (compL vs b ft fe (ds.drop i) acc ew) (fun acc e2 => ∀ v H', Step X.K κ σ H e σ H' (unwipe e1 e2 vs) → RpR X.K κ σ H' (unwipe e1 e2 vs) (.imm (.list acc)) v → Q v H') (PX X.K κ W σ H e), ⟨ds.length, by simp, Nat.zero_le _, [], _, c0, by rw [List.drop_zero]; exact sat_bind h⟩, ?_⟩
  rintro i m H2 ⟨rfl, hi, acc, ew, c, h⟩
  have xg : Ext (OwnAt σ e1) H1 H2 := fun a o ho no => by
    obtain ⟨k1, k2⟩ := c.ext a o ho no
    exact ⟨fun z => k1 fun y => y.elim z (fun y => by subst y; rw [hD] at ho; cases ho), k2⟩
  by_cases hlt : i < ds.length
  · refine .inr ⟨G.go H2 i xg hlt, fun H3 => i + 1 ≤ ds.length ∧ ∃ acc ew, CInv X.K κ (OwnAt σ e1) (wipeE e1 vs) H1 Dl acc (wipe σ vs) H3 ew ∧
      sat (compL vs b ft fe (ds.drop (i + 1)) acc ew) (fun acc e2 => ∀ v H', Step X.K κ σ H e σ H' (unwipe e1 e2 vs) → RpR X.K κ σ H' (unwipe e1 e2 vs) (.imm (.list acc)) v → Q v H') (PX X.K κ W σ H e), fun H3 ⟨q1, q2⟩ => ⟨ds.length - (i + 1), by omega, rfl, q1, q2⟩, fun x H3 y => ?_⟩
    have avd : ∀ a, AO (κ.plus Dl) (wipe σ vs) ew a → AO κ σ e1 a ∨ Fre H1 a := fun a z => by
      rcases z with (z | z) | z
      · exact .inl (.inl z)
      · exact .inr (z ▸ .of_none hD)
      · exact (c.own a z).imp .inr id
    obtain ⟨sm, g3, rp⟩ := G.yld H2 i x H3 (AO (κ.plus Dl) (wipe σ vs) ew) ds[i] xg y (List.getElem?_eq_getElem hlt) c.rel.g (fun _ z => AO.notFre c.rel z) avd
    have s3 : Step X.K (κ.plus Dl) (wipe σ vs) H2 ew (wipe σ vs) H3 ew := .same c.rel sm g3
    have c3 := c.step s3
    rw [List.drop_eq_getElem_cons hlt] at h
    unfold compL at h
    cases hb : b ds[i] ew with
    | none => rw [hb] at h; exact h.elim
    | some e3 =>
      rw [hb] at h
      refine htg (κ.plus Dl).A x (wipe σ vs) H3 _ ⟨ew, _, e3, c3.rel, rp, hb, fun σ4 s4 a4 => ⟨wipe_agree hS a4, ?_⟩⟩
      have hwσ := wipe_agree hS a4
      have c4 := c3.step s4
      -- a turn that gives nothing; a turn that gives one
      have skip : ∀ {acc' : List D} {H5 : Hp} {e5 : En}, CInv X.K κ (OwnAt σ e1) (wipeE e1 vs) H1 Dl acc' σ4 H5 e5 →
          sat (compL vs b ft fe (ds.drop (i + 1)) acc' (wipeE e5 vs)) (fun acc e2 => ∀ v H', Step X.K κ σ H e σ H' (unwipe e1 e2 vs) → RpR X.K κ σ H' (unwipe e1 e2 vs) (.imm (.list acc)) v → Q v H') (PX X.K κ W σ H e) →
          i + 1 ≤ ds.length ∧ ∃ acc ew, CInv X.K κ (OwnAt σ e1) (wipeE e1 vs) H1 Dl acc (wipe σ vs) H5 ew ∧
            sat (compL vs b ft fe (ds.drop (i + 1)) acc ew) (fun acc e2 => ∀ v H', Step X.K κ σ H e σ H' (unwipe e1 e2 vs) → RpR X.K κ σ H' (unwipe e1 e2 vs) (.imm (.list acc)) v → Q v H') (PX X.K κ W σ H e) := fun {acc' H5 e5} c5 h5 =>
        ⟨hlt, acc', wipeE e5 vs, by rw [← hwσ]; exact c5.wipe hw, h5⟩
      have give : ∀ {H5 : Hp} {e5 : En}, Step X.K (κ.plus Dl) σ4 H3 e3 σ4 H5 e5 →
          sat ((noX (fe e5)).bind fun r e6 => match r with
            | .imm x => if acc.length < sizeLine then compL vs b ft fe (ds.drop (i + 1)) (acc ++ [x]) (wipeE e6 vs) else .bad
            | .slot _ => .bad) (fun acc e2 => ∀ v H', Step X.K κ σ H e σ H' (unwipe e1 e2 vs) → RpR X.K κ σ H' (unwipe e1 e2 vs) (.imm (.list acc)) v → Q v H') (PX X.K κ W σ H e) →
          te σ4 H5 fun y H6 => ∃ acc, H6 Dl = some (.lst acc) ∧ acc.length < sizeLine ∧ (i + 1 ≤ ds.length ∧ ∃ acc' ew, CInv X.K κ (OwnAt σ e1) (wipeE e1 vs) H1 Dl acc' (wipe σ vs) (upd H6 Dl (.lst (acc ++ [y]))) ew ∧
            sat (compL vs b ft fe (ds.drop (i + 1)) acc' ew) (fun acc e2 => ∀ v H', Step X.K κ σ H e σ H' (unwipe e1 e2 vs) → RpR X.K κ σ H' (unwipe e1 e2 vs) (.imm (.list acc)) v → Q v H') (PX X.K κ W σ H e)) := fun {H5 e5} s5 h5 => by
        refine hte (κ.plus Dl).A σ4 H5 _ ⟨e5, s5.rel, (sat_noX (sat_bind h5)).mono (fun r e6 h6 y H6 s6 r6 => ?_) fun _ _ z => z⟩
        cases r with
        | slot j => exact h6.elim
        | imm x =>
          obtain ⟨h7, h6⟩ := sat_if h6
          have c6 := c4.step (s5.trans s6)
          obtain ⟨ls, k1, k2, c7⟩ := c6.app g r6
          exact ⟨ls, k1, by rw [k2]; exact h7, skip c7 h6⟩
      cases ft with
      | none =>
        refine htt (κ.plus Dl).A σ4 H3 _ ?_
        unfold tTs tYes
        dsimp only
        rw [if_pos rfl]
        exact give (.refl s4.rel) h
      | some f =>
        refine htt (κ.plus Dl).A σ4 H3 _ ⟨e3, s4.rel, ?_⟩
        have h : sat (((noX (f e3)).bind fun r e1 => truK r e1 fun b => EOut.ok b e1).bind fun t e2 => bif t then (noX (fe e2)).bind fun r e3 => (match r with
          | .imm x => if acc.length < sizeLine then compL vs b (some f) fe (ds.drop (i + 1)) (acc ++ [x]) (wipeE e3 vs) else .bad
          | .slot _ => .bad)
          else compL vs b (some f) fe (ds.drop (i + 1)) acc (wipeE e2 vs)) _ _ := h
        refine (sat_noX (sat_bind (sat_bind h))).mono (fun r e5 h => ?_) fun _ _ z => z
        obtain ⟨d, t, q1, q2, h⟩ := sat_tru h
        refine ⟨d, t, q1, q2, fun H5 s5 => ?_⟩
        cases t with
        | true => exact iteT (give s5 h)
        | false => exact iteF (skip (c4.step s5) h)
  · have e : i = ds.length := by omega
    subst e
    rw [List.drop_length] at h
    exact .inl ⟨G.stop H2 xg, done c h⟩
/-- a comprehension as a value -/
theorem ev_comp (gk : GOk κ.G) {S : List Nat} {elt tg iter : Expr} {ifs : List Expr} {scope : Scope} {own : List (Str × Nat)} {g : TG} {tt : TT} {te : TE} (hc : X.calm = true) (hN : X.N.Nodup) (hi : PI X tg iter (tI X.K κ W fi)) (ok : BlkOk X.N X.env.scope scope own)
    (hg : ∀ (s : Shared) (H : Hp) (C : Addr) (cl : List (Str × Addr)) (fp : List Addr), PG (X.blk s H scope (compEnvC scope cl C X.env) fp) tg (fun v σ H Q => ∃ A, tG X.K ⟨A, κ.G, κ.ec⟩ S b v σ H Q))
    (ht : ∀ (s : Shared) (H : Hp) (C : Addr) (cl : List (Str × Addr)) (fp : List Addr), PTs (X.blk s H scope (compEnvC scope cl C X.env) fp) ifs (fun σ H Q => ∃ A, tTs X.K ⟨A, κ.G, κ.ec⟩ ft σ H Q))
    (he : ∀ (s : Shared) (H : Hp) (C : Addr) (cl : List (Str × Addr)) (fp : List Addr), PE (X.blk s H scope (compEnvC scope cl C X.env) fp) elt (fun σ H Q => ∃ A, tE X.K ⟨A, κ.G, κ.ec⟩ W0 fe σ H Q))
    (hs : ∀ x, foldedSetIterable iter X.env x = pure x) (hS : ∀ i ∈ S, i ∈ own.map (·.2)) :
    PE X (.ListComp elt [⟨tg, iter, ifs, 0⟩] scope pos) (tE X.K κ W (dComp fi (own.map (·.2)) b ft fe)) :=
  pe_imp (pe_lc hc hN hi ok hg ht he hs) fun σ H Q h => comp_step gk (fun A _ _ _ z => ⟨A, z⟩) (fun A _ _ _ z => ⟨A, z⟩) (fun A _ _ _ _ z => ⟨A, z⟩) hS h
/-- name = a comprehension on one line -/
theorem es_setComp (gk : GOk κ.G) {i : Nat} {y : Str} {py spos : Pos} {S : List Nat} {elt tg iter : Expr} {ifs : List Expr} {scope : Scope} {own : List (Str × Nat)} (hc : X.calm = true) (hN : X.N.Nodup) (hy : X.N[i]? = some y) (hyl : X.env.scope.names.lookup y = some .local)
    (hsw : swapsWith (.ListComp elt [⟨tg, iter, ifs, 0⟩] scope pos) (some (.Name y py)) spos.line X.env = pure true) (hi : PI X tg iter (tI X.K κ W fi)) (ok : BlkOk X.N X.env.scope scope own)
    (hg : ∀ (s : Shared) (H : Hp) (C : Addr) (cl : List (Str × Addr)) (fp : List Addr), PG (X.blk s H scope (compEnvC scope cl C X.env) fp) tg (fun v σ H Q => ∃ A, tG X.K ⟨A, κ.G, κ.ec⟩ S b v σ H Q))
    (ht : ∀ (s : Shared) (H : Hp) (C : Addr) (cl : List (Str × Addr)) (fp : List Addr), PTs (X.blk s H scope (compEnvC scope cl C X.env) fp) ifs (fun σ H Q => ∃ A, tTs X.K ⟨A, κ.G, κ.ec⟩ ft σ H Q))
    (he : ∀ (s : Shared) (H : Hp) (C : Addr) (cl : List (Str × Addr)) (fp : List Addr), PE (X.blk s H scope (compEnvC scope cl C X.env) fp) elt (fun σ H Q => ∃ A, tE X.K ⟨A, κ.G, κ.ec⟩ W0 fe σ H Q))
    (hs : ∀ x, foldedSetIterable iter X.env x = pure x) (hS : ∀ i ∈ S, i ∈ own.map (·.2)) :
    PS X (.Assign [.Name y py] (.ListComp elt [⟨tg, iter, ifs, 0⟩] scope pos) spos) (tS X.K κ W (sAsg (setD i) (dComp fi (own.map (·.2)) b ft fe))) := by
  refine ps_imp (ps_setLc hc hN hy hyl hsw hi ok hg ht he hs) fun D σ H ⟨e, R, h⟩ => ?_
  refine comp_step (κ := κ) (W := W) gk (fun A _ _ _ z => ⟨A, z⟩) (fun A _ _ _ z => ⟨A, z⟩) (fun A _ _ _ _ z => ⟨A, z⟩) hS ⟨e, R, (ssat_then h).mono (fun r e1 h v H1 s rr => ?_) fun c e' h => h.ex⟩
  obtain ⟨d, rfl, h⟩ := ssat_imm h
  obtain ⟨e2, hb, h⟩ := ssat_opt h
  exact h _ H1 (s.trans (setD_step s.rel hb rr))
end
end Fw
namespace Fw
open PySem PySem.Spec L2

/-! ### built-in functions over data -/
def RpTs (K : PySem.W.Frag) (H : Hp) (M : AS) : List V → List D → Prop
  | vs, [] => vs = []
  | vs, d :: ds => ∃ v vr, vs = v :: vr ∧ RpT K H M v d ∧ RpTs K H M vr ds
def rdL (e : En) : List Ref → Option (List D)
  | [] => some []
  | r :: rs => (r.rd e).bind fun d => (rdL e rs).map (d :: ·)
def rdLK {β : Type} (rs : List Ref) (e : En) (k : List D → EOut β) : EOut β := match rdL e rs with
  | some ds => k ds
  | none => .bad
theorem sat_rdL {β : Type} {rs : List Ref} {e : En} {k : List D → EOut β} {P : β → En → Prop} {E : Nat → En → Prop} (h : sat (rdLK rs e k) P E) : ∃ ds, rdL e rs = some ds ∧ sat (k ds) P E := by
  unfold rdLK at h
  cases q : rdL e rs with
  | none => rw [q] at h; exact h.elim
  | some d => rw [q] at h; exact ⟨d, rfl, h⟩
theorem rpts_of {K : PySem.W.Frag} {κ : Kt} {σ : St} {H : Hp} {e : En} (R : Rel K κ σ H e) : ∀ {rs : List Ref} {vs : List V} {ds : List D}, RpRs K κ σ H e rs vs → rdL e rs = some ds → RpTs K H (AO κ σ e) vs ds
  | [], _, _, h, q => by cases q; exact h
  | r :: rs, _, _, ⟨v, vr, h1, h2, h3⟩, q => by
    obtain ⟨d, q1, q⟩ := Option.bind_eq_some_iff.mp q
    obtain ⟨ds, q2, rfl⟩ := Option.map_eq_some_iff.mp q
    exact ⟨v, vr, h1, h2.rd R q1, rpts_of R h3 q2⟩
def RGC (K : PySem.W.Frag) (G : Hp → Prop) (r : List V → Hp → VK → Prop) (g : List D → Option D) : Prop :=
  ∀ (H : Hp) (M : AS) (vs : List V) (ds : List D) (z : D) (Q : VK), G H → (∀ a, M a → ¬ Fre H a) → RpTs K H M vs ds → g ds = some z → (∀ v H', Same H H' → G H' → Rp K H' M v z → Q v H') → r vs H Q
def dCB (g : List D → Option D) (fl : En → EOut (List Ref)) : En → EOut Ref := fun e => (fl e).bind fun rs e1 => rdLK rs e1 fun ds => okD (g ds) e1
theorem cb_step {K : PySem.W.Frag} {κ : Kt} {W : WX} {r : List V → Hp → VK → Prop} {g : List D → Option D} {fl : En → EOut (List Ref)} (hr : RGC K κ.G r g) {σ : St} {H : Hp} {Q : VK} (h : tE K κ W (dCB g fl) σ H Q) : tCB r (tL K κ W fl) σ H Q := by
  obtain ⟨e, R, h⟩ := h
  refine ⟨e, R, (sat_bind h).mono (fun rs e1 h vs H1 s1 r1 => ?_) fun c e' h => h⟩
  obtain ⟨ds, q1, h⟩ := sat_rdL h
  obtain ⟨z, q2, h⟩ := sat_okD h
  exact hr H1 (AO κ σ e1) vs ds z Q s1.rel.g (fun _ z => AO.notFre s1.rel z) (rpts_of s1.rel r1 q1) q2 fun v H' sm g' rz => h v H' (s1.trans (.same s1.rel sm g')) rz
section
variable {X : Cx} {κ : Kt} {W : WX} {pos p : Pos} {a : Expr} {es : List Expr} {x : Str} {fa : En → EOut Ref} {fl : En → EOut (List Ref)} {r : List V → Hp → VK → Prop} {g : List D → Option D}
theorem ev_callB {id : String} (hc : CallR X (.builtin id) r) (hr : RGC X.K κ.G r g) (hg : Gl X x) (hm : X.mg x = none) (hv : bootBuiltins x = some (.builtin id)) (ha : PA X (a :: es) (tL X.K κ W fl)) (hn : x ≠ "__name__") (hdb : (x == ("__debug__" : Str)) = false)
    (he : starEach (a :: es) X.env = (false, eval a X.env) :: starEach es X.env) (hpl : (backTo pos (starEach es X.env)).any (·.1) = false) : PE X (.Call (.Name x p) (a :: es) [] pos) (tE X.K κ W (dCB g fl)) :=
  pe_imp (pe_callB hc hg hm hv ha hn hdb he hpl) fun _ _ _ h => cb_step hr h
theorem ev_callTy {T : String} (hc : CallR X (.type T) r) (hr : RGC X.K κ.G r g) (hg : Gl X x) (hm : X.mg x = none) (hv : bootBuiltins x = some (.type T)) (ha : PA X (a :: es) (tL X.K κ W fl)) (hn : x ≠ "__name__") (hdb : (x == ("__debug__" : Str)) = false)
    (he : starEach (a :: es) X.env = (false, eval a X.env) :: starEach es X.env) (hpl : (backTo pos (starEach es X.env)).any (·.1) = false) : PE X (.Call (.Name x p) (a :: es) [] pos) (tE X.K κ W (dCB g fl)) :=
  pe_imp (pe_callTy hc hg hm hv ha hn hdb he hpl) fun _ _ _ h => cb_step hr h
end
theorem rpts1 {K : PySem.W.Frag} {H : Hp} {M : AS} {vs : List V} {d : D} (h : RpTs K H M vs [d]) : ∃ v, vs = [v] ∧ RpT K H M v d := by
  obtain ⟨v, vr, h1, h2, h3⟩ := h
  exact ⟨v, by rw [h1, h3], h2⟩
theorem rpts2 {K : PySem.W.Frag} {H : Hp} {M : AS} {vs : List V} {d d' : D} (h : RpTs K H M vs [d, d']) : ∃ v w, vs = [v, w] ∧ RpT K H M v d ∧ RpT K H M w d' := by
  obtain ⟨v, vr, h1, h2, w, wr, h3, h4, h5⟩ := h
  exact ⟨v, w, by rw [h1, h3, h5], h2, h4⟩
def lenD : List D → Option D
  | [.str s] => if s.length ≤ sizeLine then some (.int s.length) else none
  | [.list xs] => some (.int xs.length)
  | [.tuple xs] => some (.int xs.length)
  | _ => none
def absD : List D → Option D
  | [.int i] => some (.int (if i < 0 then -i else i))
  | _ => none
def intD : List D → Option D
  | [.int i] => some (.int i)
  | [.bool b] => some (.int (if b then 1 else 0))
  | _ => none
def maxD : List D → Option D
  | [.int i, .int j] => some (.int (if j > i then j else i))
  | _ => none
def minD : List D → Option D
  | [.int i, .int j] => some (.int (if j < i then j else i))
  | _ => none
def boolsD : List D → Option (List Bool)
  | [] => some []
  | .bool b :: r => (boolsD r).map (b :: ·)
  | _ :: _ => none
def intsD : List D → Option (List Int)
  | [] => some []
  | .int b :: r => (intsD r).map (b :: ·)
  | _ :: _ => none
def allD : List D → Option D
  | [.list xs] => (boolsD xs).map fun bs => .bool (bs.all id)
  | _ => none
def anyD : List D → Option D
  | [.list xs] => (boolsD xs).map fun bs => .bool (bs.any id)
  | _ => none
def listD : List D → Option D
  | [.list xs] => some (.list xs)
  | [.tuple xs] => some (.list xs)
  | _ => none
def tupleD : List D → Option D
  | [.list xs] => some (.tuple xs)
  | [.tuple xs] => some (.tuple xs)
  | _ => none
section
variable {K : PySem.W.Frag} {X : Cx} {G : Hp → Prop}
theorem bools_of {H : Hp} {M : AS} : ∀ {vs : List V} {ds : List D} {bs : List Bool}, RpAll K H M vs ds → boolsD ds = some bs → vs = bs.map V.bl
  | _, _, _, .nil, q => by cases q; rfl
  | _, d :: _, _, .cons h t, q => by
    cases d with
    | bool b =>
      obtain ⟨bs, q1, rfl⟩ := Option.map_eq_some_iff.mp q
      cases h
      rw [bools_of t q1]; rfl
    | _ => cases q
theorem ints_of {H : Hp} {M : AS} : ∀ {vs : List V} {ds : List D} {bs : List Int}, RpAll K H M vs ds → intsD ds = some bs → vs = bs.map V.int
  | _, _, _, .nil, q => by cases q; rfl
  | _, d :: _, _, .cons h t, q => by
    cases d with
    | int b =>
      obtain ⟨bs, q1, rfl⟩ := Option.map_eq_some_iff.mp q
      cases h
      rw [ints_of t q1]; rfl
    | _ => cases q
theorem rc_len : RGC K G (fun xs H Q => ∃ x n, xs = [x] ∧ LenV K x H n ∧ Q (.int n) H) lenD := by
  intro H M vs ds z Q hG hM r hz q
  unfold lenD at hz
  split at hz
  · obtain ⟨v, rfl, h⟩ := rpts1 r
    split at hz
    · rename_i hl; cases hz; rw [h.str]; exact ⟨_, _, rfl, ⟨hl, rfl⟩, q _ H (.refl H) hG (.int _)⟩
    · cases hz
  · cases hz
    obtain ⟨v, rfl, h⟩ := rpts1 r
    obtain ⟨p, xs, rfl, h1, r1⟩ := h.list
    exact ⟨_, xs.length, rfl, .inl ⟨xs, h1, rfl⟩, by rw [r1.length]; exact q _ H (.refl H) hG (.int _)⟩
  · cases hz
    obtain ⟨v, rfl, h⟩ := rpts1 r
    obtain ⟨p, xs, rfl, h1, r1⟩ := h.tup
    exact ⟨_, xs.length, rfl, .inr ⟨xs, h1.sq, rfl⟩, by rw [r1.length]; exact q _ H (.refl H) hG (.int _)⟩
  · cases hz
theorem rc_abs : RGC K G (fun xs H Q => ∃ i, xs = [.int i] ∧ Q (.int (if i < 0 then -i else i)) H) absD := by
  intro H M vs ds z Q hG hM r hz q
  unfold absD at hz
  split at hz
  · cases hz
    obtain ⟨v, rfl, h⟩ := rpts1 r
    rw [h.int]
    exact ⟨_, rfl, q _ H (.refl H) hG (.int _)⟩
  · cases hz
theorem rc_int : RGC K G (fun xs H Q => (∃ i, xs = [.int i] ∧ Q (.int i) H) ∨ ∃ k, xs = [.bl k] ∧ Q (.int (if k then 1 else 0)) H) intD := by
  intro H M vs ds z Q hG hM r hz q
  unfold intD at hz
  split at hz
  · cases hz
    obtain ⟨v, rfl, h⟩ := rpts1 r
    rw [h.int]
    exact .inl ⟨_, rfl, q _ H (.refl H) hG (.int _)⟩
  · cases hz
    obtain ⟨v, rfl, h⟩ := rpts1 r
    rw [h.bool]
    exact .inr ⟨_, rfl, q _ H (.refl H) hG (.int _)⟩
  · cases hz
theorem rc_max : RGC K G (fun xs H Q => ∃ i j, xs = [.int i, .int j] ∧ Q (.int (if j > i then j else i)) H) maxD := by
  intro H M vs ds z Q hG hM r hz q
  unfold maxD at hz
  split at hz
  · cases hz
    obtain ⟨v, w, rfl, h, h'⟩ := rpts2 r
    rw [h.int, h'.int]
    exact ⟨_, _, rfl, q _ H (.refl H) hG (.int _)⟩
  · cases hz
theorem rc_min : RGC K G (fun xs H Q => ∃ i j, xs = [.int i, .int j] ∧ Q (.int (if j < i then j else i)) H) minD := by
  intro H M vs ds z Q hG hM r hz q
  unfold minD at hz
  split at hz
  · cases hz
    obtain ⟨v, w, rfl, h, h'⟩ := rpts2 r
    rw [h.int, h'.int]
    exact ⟨_, _, rfl, q _ H (.refl H) hG (.int _)⟩
  · cases hz
theorem rc_all : RGC K G (rAll K) allD := by
  intro H M vs ds z Q hG hM r hz q
  unfold allD at hz
  split at hz
  · obtain ⟨v, rfl, h⟩ := rpts1 r
    obtain ⟨p, xs, rfl, h1, r1⟩ := h.list
    obtain ⟨bs, e, rfl⟩ := Option.map_eq_some_iff.mp hz
    have := bools_of r1 e
    subst this
    exact ⟨p, bs, rfl, h1, q _ H (.refl H) hG (.bl _)⟩
  · cases hz
theorem rc_any : RGC K G (rAny K) anyD := by
  intro H M vs ds z Q hG hM r hz q
  unfold anyD at hz
  split at hz
  · obtain ⟨v, rfl, h⟩ := rpts1 r
    obtain ⟨p, xs, rfl, h1, r1⟩ := h.list
    obtain ⟨bs, e, rfl⟩ := Option.map_eq_some_iff.mp hz
    have := bools_of r1 e
    subst this
    exact ⟨p, bs, rfl, h1, q _ H (.refl H) hG (.bl _)⟩
  · cases hz
theorem rc_list (g : GOk G) : RGC K G (fun xs H Q => ∃ p ys, xs = [.ref p] ∧ (SqL K H p ys ∨ SqT K H p ys) ∧ ∀ l, H l = none → Q (.ref l) (upd H l (.lst ys))) listD := by
  intro H M vs ds z Q hG hM r hz q
  unfold listD at hz
  split at hz
  · cases hz
    obtain ⟨v, rfl, h⟩ := rpts1 r
    obtain ⟨p, xs, rfl, h1, r1⟩ := h.list
    exact ⟨p, xs, rfl, .inl h1, fun l hl => q _ _ (.new hl) (g.new hG hl) (new_lst hM hl r1)⟩
  · cases hz
    obtain ⟨v, rfl, h⟩ := rpts1 r
    obtain ⟨p, xs, rfl, h1, r1⟩ := h.tup
    exact ⟨p, xs, rfl, .inr h1.sq, fun l hl => q _ _ (.new hl) (g.new hG hl) (new_lst hM hl r1)⟩
  · cases hz
theorem rc_tuple (g : GOk G) : RGC K G (fun xs H Q => ∃ p ys, xs = [.ref p] ∧ ((SqL K H p ys ∧ ∀ l, H l = none → Q (.ref l) (upd H l (.tup ys))) ∨ (SqT K H p ys ∧ Q (.ref p) H))) tupleD := by
  intro H M vs ds z Q hG hM r hz q
  unfold tupleD at hz
  split at hz
  · cases hz
    obtain ⟨v, rfl, h⟩ := rpts1 r
    obtain ⟨p, xs, rfl, h1, r1⟩ := h.list
    exact ⟨p, xs, rfl, .inl ⟨h1, fun l hl => q _ _ (.new hl) (g.new hG hl) (new_tup hM hl r1)⟩⟩
  · cases hz
    obtain ⟨v, rfl, h⟩ := rpts1 r
    obtain ⟨p, xs, rfl, h1, r1⟩ := h.tup
    exact ⟨p, xs, rfl, .inr ⟨h1.sq, q _ H (.refl H) hG (.tup h1 r1)⟩⟩
  · cases hz
end
/-! ### isinstance of data -/
def tyName : D → String
  | .none => "NoneType"
  | .bool _ => "bool"
  | .int _ => "int"
  | .str _ => "str"
  | .list _ => "list"
  | .tuple _ => "tuple"
  | .dict _ => "dict"
def isT (T : String) (d : D) : Bool := match d with
  | .none => T == "NoneType"
  | .bool _ => T == "bool" || T == "int"
  | .int _ => T == "int"
  | .str _ => T == "str"
  | .list _ => T == "list"
  | .tuple _ => T == "tuple"
  | .dict _ => T == "dict"
theorem kit_isT {T : String} (hT : T ∈ ["int", "bool", "str", "list", "tuple"]) (d : D) : kitB (tyName d) T = some (isT T d) := by
  simp only [List.mem_cons, List.not_mem_nil, or_false] at hT
  rcases hT with rfl | rfl | rfl | rfl | rfl <;> cases d <;> first | rfl | decide +kernel
theorem ty_of {K : PySem.W.Frag} {H : Hp} {M : AS} {v : V} {d : D} (h : RpT K H M v d) : TyX K H v (.type (tyName d)) := by
  cases h with
  | of h =>
    cases h with
    | non => exact .base .non
    | bl b => exact .base (.bl b)
    | int i => exact .base (.int i)
    | str x => exact .base (.str x)
    | lst h r =>
      rcases h with ⟨h | ⟨o, h⟩, _⟩ | ⟨o, _, _, h, c, _⟩
      · exact .base (.lst h)
      · exact .base (.frz h)
      · exact .kList h c
    | tup h r =>
      rcases h with ⟨h | ⟨o, h⟩, _⟩ | ⟨o, _, _, h, c, _⟩
      · exact .base (.tup h)
      · exact .fTuple h
      · exact .kTuple h c
    | dic h n r =>
      rcases h with h | ⟨o, h⟩
      · exact .base (.dK h)
      · exact .fDict h
  | lst h r => exact .base (.lst h)
section
variable {X : Cx} {κ : Kt} {W : WX} {pos p p2 : Pos} {a : Expr} {fa : En → EOut Ref}
theorem ev_isinst {T : String} {Ts : Str} (hT : T ∈ ["int", "bool", "str", "list", "tuple"]) (hTs : bootBuiltins Ts = some (.type T)) (hTn : Ts ≠ "__name__") (hTd : (Ts == ("__debug__" : Str)) = false) (hgT : Gl X Ts) (hmT : X.mg Ts = none)
    (hg : Gl X "isinstance") (hm : X.mg "isinstance" = none) (ha : PE X a (tE X.K κ W fa)) (h1 : starEach [a, .Name Ts p2] X.env = (false, eval a X.env) :: starEach [.Name Ts p2] X.env) :
    PE X (.Call (.Name "isinstance" p) [a, .Name Ts p2] [] pos) (tE X.K κ W (dUn (fun d => some (.bool (isT T d))) fa)) := by
  refine pe_imp (pe_callB (pos := pos) (p := p) call_isi hg hm (by decide +kernel) (pa_cons ha (pa_cons (pe_bltn (v := .ty T) hgT hmT hTs rfl hTn hTd) pa_nil) h1) (by decide) (by decide) h1 (by rfl)) fun σ H Q ⟨e, R, h⟩ => ⟨e, R, (sat_bind h).mono (fun r e1 h v H1 s rr => ?_) fun c e' h => h⟩
  obtain ⟨d, q1, h⟩ := sat_rd h
  obtain ⟨z, q2, h⟩ := sat_okD h
  cases q2
  have rd := rr.rd s.rel q1
  exact ⟨v, .ty T, .type (tyName d), .type T, isT T d, rfl, .ty T, ty_of rd, kit_ty (kit_isT hT d), h _ H1 s (.bl _)⟩
end
end Fw
namespace Fw
open PySem PySem.Spec L2 PyProof.Rows
section
variable {prog : Program} {w : World} {A : Around} {E : Value → Shared → Prop} {s : Shared} {l : Addr} {its : List Value} {ns : List Int} {Q : Value → Shared → Prop}
theorem sum_tupI {xs : Array (Int × Tok)} (hh : A.handled = none) (hl : s.heap.IsTuple l (intItems xs))
    (h : ∀ h' tk t', (∀ b o, s.heap.get? b = some o → h'.get? b = some o) → Q (.int (preSum (numAt xs) xs.size) t') { s with heap := h', toks := tk }) : wpAny (model prog w) A (call (.builtin "sum") [.ref l]) Q E s := by
  have hlt : l < s.heap.objs.size := by obtain ⟨_, e, _⟩ := hl; exact Heap.lt_size e
  refine call_sum_walkG (wpAny_pyIter_tuple hl ?_)
  refine ⟨_, [s.heap.objs.size, l], [s.heap.objs.size], _, _, _, numAt xs, rfl, Walks.tuple (A := A.in1) hh _ l (Nat.ne_of_lt hlt) (intItems xs), ⟨⟨_, Heap.get?_push_size _ rfl, rfl, rfl⟩, hl.push _⟩, fun c hc => ?_, (fun _ _ => intItems_at), fun h' tk t' hk => ?_⟩
  · show c < (s.heap.push _).objs.size
    rw [Heap.size_push]
    rcases List.mem_cons.mp hc with rfl | hc
    · exact Nat.lt_succ_self _
    · rw [List.mem_singleton.mp hc]; exact Nat.lt_succ_of_lt hlt
  · have := h h' tk t' fun b o e => hk b o (fun hb => absurd (Heap.lt_size e) ((List.mem_singleton.mp hb) ▸ Nat.lt_irrefl _)) (Heap.get?_push_of_some _ e)
    simpa [intItems] using this
theorem sum_tup (hh : A.handled = none) (hl : s.heap.IsTuple l its.toArray) (hi : IntsAre its ns)
    (h : ∀ h' tk t', (∀ b o, s.heap.get? b = some o → h'.get? b = some o) → Q (.int ns.sum t') { s with heap := h', toks := tk }) : wpAny (model prog w) A (call (.builtin "sum") [.ref l]) Q E s := by
  obtain ⟨xs, e⟩ := hi.allInts.items
  have hn : numsOf (intItems xs).toList = ns := by rw [← e]; exact hi.numsOf
  rw [nums_intItems] at hn
  rw [e] at hl
  refine sum_tupI hh hl fun h' tk t' hk => ?_
  have := h h' tk t' hk
  rw [preSum_eq, List.take_of_length_le (by simp), hn]; exact this
end
/-- sum(xs), of a list or a tuple of ints -/
def rSum2 (K : PySem.W.Frag) : List V → Hp → VK → Prop := fun vs H Q => ∃ (a : Addr) (ns : List Int), vs = [V.ref a] ∧ (SqL K H a (ns.map V.int) ∨ SqT K H a (ns.map V.int)) ∧ Q (.int ns.sum) H
theorem cr_sum2 {X : Cx} (hc : X.calm = true) : CallR X (.builtin "sum") (rSum2 X.K) := by
  intro pins s σ H vs us Q I r h
  obtain ⟨a, ns, rfl, hs, q⟩ := h
  rcases hs with hs | hs
  · exact cr_sum hc pins s σ H _ us Q I r ⟨a, ns, rfl, hs, q⟩
  · obtain ⟨its, rv, hl, _⟩ := I.tuple hs
    rw [Vals.ref1 r]
    exact sum_tup (I.ok.hd hc) hl rv.ints fun h' tk t' hk => ⟨.int _, H, I.kept hk, ⟨_, rfl⟩, q⟩
def sumD : List D → Option D
  | [.list xs] => (intsD xs).map fun ns => .int ns.sum
  | [.tuple xs] => (intsD xs).map fun ns => .int ns.sum
  | _ => none
theorem rc_sum {K : PySem.W.Frag} {G : Hp → Prop} : RGC K G (rSum2 K) sumD := by
  intro H M vs ds z Q hG hM r hz q
  unfold sumD at hz
  split at hz
  · obtain ⟨v, rfl, h⟩ := rpts1 r
    obtain ⟨ns, h1, rfl⟩ := Option.map_eq_some_iff.mp hz
    obtain ⟨p, xs, rfl, hs, r1⟩ := h.list
    rw [ints_of r1 h1] at hs
    exact ⟨p, ns, rfl, .inl hs, q _ H (.refl H) hG (.int _)⟩
  · obtain ⟨v, rfl, h⟩ := rpts1 r
    obtain ⟨ns, h1, rfl⟩ := Option.map_eq_some_iff.mp hz
    obtain ⟨p, xs, rfl, hs, r1⟩ := h.tup
    rw [ints_of r1 h1] at hs
    exact ⟨p, ns, rfl, .inr hs.sq, q _ H (.refl H) hG (.int _)⟩
  · cases hz
end Fw
namespace Fw
open PySem PySem.Spec L2

section
variable {K : PySem.W.Frag} {κ : Kt} {σ : St} {H : Hp} {e : En}
/-- a slot's own list is changed in place -/
theorem own_step (g : GOk κ.G) (R : Rel K κ σ H e) {i : Nat} {p : Bool} {xs ys : List D} {a : Addr} {vs ws : List V} (hi : e[i]? = some (some (SV.own p xs))) (hσ : σ[i]? = some (some (V.ref a))) (ha : H a = some (.lst vs)) (r : RpAll K H (AO κ σ e) ws ys) :
    Step K κ σ H e σ (upd H a (.lst ws)) (e.set i (some (.own p ys))) := by
  have hl : i < e.length := (List.getElem?_eq_some_iff.mp hi).1
  obtain ⟨b, vs', k1, k2, k3, k4⟩ := R.own i p xs hi
  rw [hσ] at k1; cases k1
  have own : ∀ b, OwnAt σ (e.set i (some (.own p ys))) b ↔ OwnAt σ e b := fun b => by
    constructor
    · rintro ⟨j, q, zs, z1, z2⟩
      by_cases hj : i = j
      · subst hj; rw [set_at hl] at z1; cases z1; exact ⟨i, p, xs, hi, z2⟩
      · rw [getset_ne hj] at z1; exact ⟨j, q, zs, z1, z2⟩
    · rintro ⟨j, q, zs, z1, z2⟩
      by_cases hj : i = j
      · subst hj; rw [hi] at z1; cases z1; exact ⟨i, p, ys, set_at hl, z2⟩
      · exact ⟨j, q, zs, by rw [getset_ne hj]; exact z1, z2⟩
  have av : ∀ b, AO κ σ (e.set i (some (.own p ys))) b → AO κ σ e b ∨ Fre H b := fun b z => .inl (z.imp id (own b).mp)
  have x : Ext (OwnAt σ e) H (upd H a (.lst ws)) := fun b o ho no => by
    by_cases hb : b = a
    · subst hb; exact ⟨fun z => absurd ⟨i, p, xs, hi, hσ⟩ z, _, upd_same, nt_lst⟩
    · rw [upd_ne hb]; exact ⟨fun _ => ho, o, ho, no⟩
  refine ⟨⟨by rw [List.length_set]; exact R.len, fun j y z => ?_, fun j q zs z => ?_, fun j k q q' zs zs' b z1 z2 z3 z4 => ?_, fun b z y => R.av b z (x.fre y), g.set R.g ha⟩, x, fun b z => .inl ((own b).mp z), fun j zs z => ⟨?_, rfl⟩⟩
  · have hj : i ≠ j := fun y => by subst y; rw [set_at hl] at z; cases z
    rw [getset_ne hj] at z
    obtain ⟨v, m1, m2⟩ := R.dat j y z
    exact ⟨v, m1, m2.go x.ao av⟩
  · by_cases hj : i = j
    · subst hj; rw [set_at hl] at z; cases z
      exact ⟨a, ws, hσ, upd_same, k3, r.go x.ao av⟩
    · rw [getset_ne hj] at z
      obtain ⟨b, us, m1, m2, m3, m4⟩ := R.own j q zs z
      have hb : b ≠ a := fun y => by subst y; exact hj (R.inj i j _ _ _ _ b hi z hσ m1)
      exact ⟨b, us, m1, by rw [upd_ne hb]; exact m2, m3, m4.go x.ao av⟩
  · have back : ∀ {j q zs}, (e.set i (some (.own p ys)))[j]? = some (some (SV.own q zs)) → ∃ q' zs', e[j]? = some (some (SV.own q' zs')) := fun {j q zs} z => by
      by_cases hj : i = j
      · subst hj; exact ⟨p, xs, hi⟩
      · rw [getset_ne hj] at z; exact ⟨q, zs, z⟩
    obtain ⟨_, _, w1⟩ := back z1
    obtain ⟨_, _, w2⟩ := back z2
    exact R.inj j k _ _ _ _ b w1 w2 z3 z4
  · by_cases hj : i = j
    · subst hj; rw [hi] at z; cases z; exact ⟨ys, set_at hl⟩
    · exact ⟨zs, by rw [getset_ne hj]; exact z⟩
end
section
variable {X : Cx} {κ : Kt} {W : WX} {pos p apos : Pos} {a b : Expr} {fa fb : En → EOut Ref} {x : Str} {i : Nat}
def isOwn (e : En) (i : Nat) : Bool := match e[i]? with
  | some (some (.own _ _)) => true
  | _ => false
theorem isOwn_at {e : En} {i : Nat} (h : isOwn e i = true) : ∃ (q : Bool) (xs : List D), e[i]? = some (some (SV.own q xs)) := by
  unfold isOwn at h
  split at h
  · exact ⟨_, _, by assumption⟩
  · cases h
/-- what a slot's own list becomes -/
def ownS (e : En) (i : Nat) (f : List D → Option (List D)) : SOut := match e[i]? with
  | some (some (.own q xs)) => match f xs with
    | some ys => .nx (e.set i (some (.own q ys)))
    | none => .bad
  | _ => .bad
theorem ssat_own {e : En} {i : Nat} {f : List D → Option (List D)} {n : En → Prop} {r : RV → En → Prop} {b c : En → Prop} {E : Nat → En → Prop} (h : ssat (ownS e i f) n r b c E) : ∃ (q : Bool) (xs ys : List D), e[i]? = some (some (SV.own q xs)) ∧ f xs = some ys ∧ n (e.set i (some (.own q ys))) := by
  unfold ownS at h
  split at h
  · rename_i q xs hq
    cases hf : f xs with
    | none => rw [hf] at h; exact h.elim
    | some ys => rw [hf] at h; exact ⟨q, xs, ys, hq, hf, h⟩
  · exact h.elim
def appD (d : D) (xs : List D) : Option (List D) := if xs.length < sizeLine then some (xs ++ [d]) else none
/-- x.append(e), x a slot with a list of its own -/
def sApp (i : Nat) (fa : En → EOut Ref) : En → SOut := fun e => if isOwn e i = true then (fa e).then fun r e1 => immS r fun d => ownS e1 i (appD d) else .bad
/-- x[k] = v -/
def setAtD (k : Int) (d : D) (xs : List D) : Option (List D) := (ixN xs.length k).map fun j => xs.set j d
def sSub (i : Nat) (fi fa : En → EOut Ref) : En → SOut := fun e => (fa e).then fun r e1 => immS r fun d => if isOwn e1 i = true then (fi e1).then fun ri e2 => (match ri with
  | .imm (.int k) => ownS e2 i (setAtD k d)
  | _ => .bad) else .bad
theorem ssat_if {c : Prop} [Decidable c] {x : SOut} {n : En → Prop} {r : RV → En → Prop} {b d : En → Prop} {E : Nat → En → Prop} (h : ssat (if c then x else .bad) n r b d E) : c ∧ ssat x n r b d E := by
  by_cases q : c
  · rw [if_pos q] at h; exact ⟨q, h⟩
  · rw [if_neg q] at h; exact h.elim
theorem es_app (g : GOk κ.G) (hN : X.N[i]? = some x) (hv : Vis X.env.scope x) (hd : (x == ("__debug__" : Str)) = false) (hcd : (x == ("__classdict__" : Str)) = false) (ha : PE X a (tE X.K κ W fa))
    (hline : (apos.endLine == pos.line) = true) (he : starEach [a] X.env = [(false, eval a X.env)]) {spos : Pos} :
    PS X (.Expr (.Call (.Attribute (.Name x p) "append" apos) [a] [] pos) spos) (tS X.K κ W (sApp i fa)) := by
  refine ps_imp (ps_expr (pe_bm PySem.F.plainAttrs_list PySem.F.slot_list_append PySem.F.type_list_append mt_append (pe_var (i := i) hN hv hd hcd) (pa_cons ha pa_nil he) rfl (by rw [he]; rfl) hline he rfl) rfl) fun D σ H ⟨e, R, h⟩ => ?_
  obtain ⟨h0, h⟩ := ssat_if h
  obtain ⟨q0, xs0, h0⟩ := isOwn_at h0
  obtain ⟨a, vs0, k1, k2, k3, k4⟩ := R.own i q0 xs0 h0
  refine ⟨.ref a, k1, .inl ⟨rfl, vs0, SqL.of k2⟩, e, R, (ssat_then h).mono (fun r e1 h v H1 s rr => ?_) fun c e' h => h.ex⟩
  obtain ⟨d, rfl, h⟩ := ssat_imm h
  obtain ⟨q, xs, ys, m1, m2, h⟩ := ssat_own h
  obtain ⟨a', vs, n1, n2, n3, n4⟩ := s.rel.own i q xs m1
  rw [k1] at n1; cases n1
  unfold appD at m2
  split at m2
  · rename_i hl
    cases m2
    exact ⟨a, vs, v, rfl, rfl, n2, by rw [n4.length]; exact hl, h σ _ (s.trans (own_step g s.rel m1 k1 n2 (n4.app (.cons rr .nil))))⟩
  · cases m2
theorem es_sub (g : GOk κ.G) {tpos : Pos} (hN : X.N[i]? = some x) (hv : Vis X.env.scope x) (hd : (x == ("__debug__" : Str)) = false) (hcd : (x == ("__classdict__" : Str)) = false) (hb : PE X b (tE X.K κ W fb)) (ha : PE X a (tE X.K κ W fa))
    (hasg : ∀ v, assign (.Subscript (.Name x p) b tpos) X.env v = (do
      let ov ← holding [v] (eval (.Name x p) X.env)
      let iv ← holding [v, ov] (eval b X.env)
      standAt tpos
      holding [v, ov, iv] (setItem ov iv v)
      release [v, ov, iv] [])) (hs : swapsWithSole [.Subscript (.Name x p) b tpos] a pos.line X.env = pure false) (hw : swappedStores [.Subscript (.Name x p) b tpos] a X.env = pure none) (h1 : (assignEach [.Subscript (.Name x p) b tpos] X.env).map (·.2) = [assign (.Subscript (.Name x p) b tpos) X.env]) :
    PS X (.Assign [.Subscript (.Name x p) b tpos] a pos) (tS X.K κ W (sSub i fb fa)) := by
  refine ps_imp (ps_asg ha (pg_sub (pe_var (i := i) hN hv hd hcd) hb set_list hasg) hs hw h1) fun D σ H ⟨e, R, h⟩ => ?_
  refine ⟨e, R, (ssat_then h).mono (fun r e1 h v H1 s rr => ?_) fun c e' h => h.ex⟩
  obtain ⟨d, rfl, h⟩ := ssat_imm h
  obtain ⟨h0, h⟩ := ssat_if h
  obtain ⟨q0, xs0, h0⟩ := isOwn_at h0
  obtain ⟨a0, vs0, k1, k2, k3, k4⟩ := s.rel.own i q0 xs0 h0
  refine ⟨.ref a0, k1, e1, s.rel, (ssat_then h).mono (fun ri e2 h w H2 s2 r2 => ?_) fun c e' h => (h.from s).ex⟩
  cases ri with
  | slot j => exact h.elim
  | imm dk =>
    cases dk with
    | int k =>
      obtain ⟨q, xs, ys, m1, m2, h⟩ := ssat_own h
      obtain ⟨a', vs, n1, n2, n3, n4⟩ := s2.rel.own i q xs m1
      rw [k1] at n1; cases n1
      obtain ⟨j, j1, rfl⟩ := Option.map_eq_some_iff.mp m2
      cases r2
      exact ⟨a0, vs, k, j, rfl, rfl, n2, by rw [n4.length]; exact j1, h σ _ ((s.trans s2).trans (own_step g s2.rel m1 k1 n2 (n4.set j (s2.rp rr))))⟩
    | _ => exact h.elim
/-- x.pop(), x a slot with a list of its own -/
def dPop (i : Nat) : En → EOut Ref := fun e => match e[i]? with
  | some (some (.own q xs)) => match xs[xs.length - 1]? with
    | some d => .ok (.imm d) (e.set i (some (.own q xs.dropLast)))
    | none => .bad
  | _ => .bad
theorem ev_pop (g : GOk κ.G) (hN : X.N[i]? = some x) (hv : Vis X.env.scope x) (hd : (x == ("__debug__" : Str)) = false) (hcd : (x == ("__classdict__" : Str)) = false) (hline : (apos.endLine == pos.line) = true) :
    PE X (.Call (.Attribute (.Name x p) "pop" apos) [] [] pos) (tE X.K κ W (dPop i)) := by
  refine pe_imp (pe_bm0 PySem.F.plainAttrs_list PySem.F.slot_list_pop PySem.F.type_list_pop mt_pop (pe_var (i := i) hN hv hd hcd) rfl hline) fun σ H Q ⟨e, R, h⟩ => ?_
  unfold dPop at h
  split at h
  · rename_i q xs hq
    cases hf : xs[xs.length - 1]? with
    | none => rw [hf] at h; exact h.elim
    | some d =>
      rw [hf] at h
      obtain ⟨a, vs, k1, k2, k3, k4⟩ := R.own i q xs hq
      obtain ⟨v, n1, n2⟩ := k4.get hf
      rw [← k4.length] at n1
      have s := own_step g R hq k1 k2 k4.dropLast
      exact ⟨.ref a, k1, .inl ⟨rfl, vs, SqL.of k2⟩, a, vs, v, rfl, rfl, k2, n1, h v _ s (s.rp n2)⟩
  · exact h.elim
/-! ### raise -/
structure ExcOk (X : Cx) (x : Str) (C : Addr) : Prop where
  g : X.mg x = some (.ref C)
  k : PySem.W.keepIn X.K (.ref C) = true
  x : PySem.W.excIn X.K C [.type "ValueError", .type "Exception", .type "BaseException", .type "object"] "ValueError.__new__" = true
  b : PySem.W.subIn X.K (.ref C) (.type "BaseException") = some true
  t : PySem.W.typeIn X.K (.ref C) = some (.type "type")
def sRaise (c : Nat) : En → SOut := fun e => .exc c e
theorem es_raise {c : Nat} {m : Str} {j : Nat} {p2 : Pos} (hc : X.calm = true) (tk : L2N.Takes X W) (E : ExcOk X x (κ.ec c)) (hg : Gl X x) (hdb : (x == ("__debug__" : Str)) = false) :
    PS X (.Raise (some (.Call (.Name x p) [.Constant (.str m) j p2] [] pos)) none apos) (tS X.K κ W (sRaise c)) :=
  ps_imp (L2N.ps_raise hc tk (L2N.pmk_own PySem.F.excBase_ValueError E.x E.g E.k (raises_own E.b E.t) hg hdb)) fun D σ H ⟨e, R, h⟩ => h none σ H (fun _ => rfl) (.refl R)
end

/-! ### a def by its body -/
def outsOf : List SV → En → List (List D)
  | [], _ => []
  | .own _ _ :: r, some (.own _ ys) :: e => ys :: outsOf r e
  | _ :: r, _ :: e => [] :: outsOf r e
  | _ :: _, [] => []
def funOf (n m : Nat) (f : En → SOut) : FnDen := fun args => if args.length = m then (match f (em args ++ List.replicate (n - m) none) with
  | .nx e => .ret (.d .none) (outsOf args e)
  | .rt r e => .ret r (outsOf args e)
  | .exc c e => .exc c (outsOf args e)
  | _ => .bad) else .bad
theorem outs_get : ∀ {args : List SV} {e : En} {i : Nat}, (∀ p xs, args[i]? = some (SV.own p xs) → ∃ ys, e[i]? = some (some (SV.own true ys))) →
    ∀ p ys, (mix args (outsOf args e))[i]? = some (SV.own p ys) → e[i]? = some (some (SV.own true ys))
  | [], _, _, _, p, ys, h => by simp [mix] at h
  | s :: r, [], i, ho, p, ys, h => by
    have e0 : mix (s :: r) (outsOf (s :: r) []) = s :: r := by cases s <;> rfl
    rw [e0] at h
    obtain ⟨zs, k⟩ := ho p ys h
    simp at k
  | s :: r, o :: e, 0, ho, p, ys, h => by
    cases s with
    | d x => cases o <;> (try cases ‹SV›) <;> simp [outsOf, mix] at h
    | own q xs =>
      obtain ⟨zs, k⟩ := ho q xs rfl
      simp at k
      subst k
      simp [outsOf, mix] at h
      simp [h]
  | s :: r, o :: e, i + 1, ho, p, ys, h => by
    have ih := outs_get (args := r) (e := e) (i := i) (fun q xs z => by simpa using ho q xs (by simpa using z)) p ys
    have : (mix (s :: r) (outsOf (s :: r) (o :: e)))[i + 1]? = (mix r (outsOf r e))[i]? := by
      cases s with
      | d x => cases o <;> (try cases ‹SV›) <;> simp [outsOf, mix]
      | own q xs => cases o <;> (try cases ‹SV›) <;> simp [outsOf, mix]
    rw [this] at h
    simpa using ih h
section
variable {K : PySem.W.Frag} {κ : Kt} {H H' : Hp} {args : List SV} {vs : List V} {n : Nat}
theorem start_get {N : List Str} {vs : List V} {i : Nat} {v : V} : (L2.start N vs)[i]? = some (some v) ↔ vs[i]? = some v := by
  unfold L2.start
  by_cases hi : i < vs.length
  · rw [List.getElem?_append_left (by simpa using hi)]; simp
  · rw [List.getElem?_append_right (by simpa using hi)]
    constructor
    · intro h
      rw [List.getElem?_replicate] at h
      split at h <;> cases h
    · intro h
      exact absurd (List.getElem?_eq_some_iff.mp h).1 hi
theorem e0_get {args : List SV} {k i : Nat} {s : SV} : (em args ++ List.replicate k none)[i]? = some (some s) ↔ args[i]? = some s := by
  by_cases hi : i < args.length
  · rw [List.getElem?_append_left (by simpa using hi)]; simp [em]
  · rw [List.getElem?_append_right (by simpa using hi)]
    constructor
    · intro h
      rw [List.getElem?_replicate] at h
      split at h <;> cases h
    · intro h
      exact absurd (List.getElem?_eq_some_iff.mp h).1 hi
theorem start_own {N : List Str} {k : Nat} {a : Addr} : OwnAt (L2.start N vs) (em args ++ List.replicate k none) a ↔ OwnAt (sm vs) (em args) a := by
  constructor
  · rintro ⟨i, p, xs, h1, h2⟩; exact ⟨i, p, xs, em_get.mpr (e0_get.mp h1), sm_get.mpr (start_get.mp h2)⟩
  · rintro ⟨i, p, xs, h1, h2⟩; exact ⟨i, p, xs, e0_get.mpr (em_get.mp h1), start_get.mpr (sm_get.mp h2)⟩
theorem start_rel {N : List Str} (R : Rel K κ (sm vs) H (em args)) (hN : vs.length ≤ N.length) : Rel K κ (L2.start N vs) H (em args ++ List.replicate (N.length - vs.length) none) where
  len := by
    have h := R.len
    simp only [em, sm, List.length_map] at h
    unfold L2.start
    simp only [em, List.length_append, List.length_map, List.length_replicate]
    omega
  dat := fun i x h => by
    obtain ⟨v, h1, h2⟩ := R.dat i x (em_get.mpr (e0_get.mp h))
    exact ⟨v, start_get.mpr (sm_get.mp h1), h2.avoid fun a z => .inl (z.imp id start_own.mp)⟩
  own := fun i p xs h => by
    obtain ⟨a, ws, h1, h2, h3, h4⟩ := R.own i p xs (em_get.mpr (e0_get.mp h))
    exact ⟨a, ws, start_get.mpr (sm_get.mp h1), h2, h3, h4.avoid fun a z => .inl (z.imp id start_own.mp)⟩
  inj := fun i j p q xs ys a h1 h2 h3 h4 => R.inj i j p q xs ys a (em_get.mpr (e0_get.mp h1)) (em_get.mpr (e0_get.mp h2)) (sm_get.mpr (start_get.mp h3)) (sm_get.mpr (start_get.mp h4))
  av := R.av
  g := R.g
/-- from the body's end to the call's -/
theorem end_rel {N : List Str} {κ' : Kt} {σ' : St} {e' : En} (R : Rel K κ (sm vs) H (em args)) (hpin : ∀ (i : Nat) (p : Bool) (xs : List D), args[i]? = some (.own p xs) → p = true)
    (s : Step K κ (L2.start N vs) H (em args ++ List.replicate (N.length - vs.length) none) σ' H' e') (R' : Rel K κ' σ' H' e') (hA : ∀ a, κ'.A a → κ.A a ∨ Fre H a) (hG : κ'.G = κ.G) : Rel K κ' (sm vs) H' (em (mix args (outsOf args e'))) := by
  have hpins : ∀ (i : Nat) (p : Bool) (xs : List D), args[i]? = some (.own p xs) → (∃ ys, e'[i]? = some (some (SV.own true ys))) ∧ σ'[i]? = (L2.start N vs)[i]? := fun i p xs h => by
    have := hpin i p xs h
    subst this
    exact s.pin i xs (e0_get.mpr h)
  have og : ∀ {i : Nat} {p : Bool} {ys : List D}, (mix args (outsOf args e'))[i]? = some (SV.own p ys) → e'[i]? = some (some (SV.own true ys)) ∧ ∀ a, vs[i]? = some (V.ref a) ↔ σ'[i]? = some (some (V.ref a)) := fun {i p ys} h => by
    have k1 := outs_get (fun q xs z => (hpins i q xs z).1) p ys h
    obtain ⟨xs, k2⟩ := mix_own.mp ⟨ys, h⟩
    obtain ⟨_, k3⟩ := hpins i p xs k2
    exact ⟨k1, fun a => by rw [k3]; exact start_get.symm⟩
  have sub : ∀ a, OwnAt (sm vs) (em (mix args (outsOf args e'))) a → OwnAt σ' e' a := fun a ⟨i, p, ys, z1, z2⟩ => by
    obtain ⟨k1, k2⟩ := og (em_get.mp z1)
    exact ⟨i, true, ys, k1, (k2 a).mp (sm_get.mp z2)⟩
  have x : Ext (AO κ (sm vs) (em args)) H H' := s.ext.mono fun a z => .inr (start_own.mp z)
  refine ⟨?_, fun i y h => ?_, fun i p ys h => ?_, fun i j p q xs ys a h1 h2 h3 h4 => ?_, R'.av, R'.g⟩
  · have := R.len
    simp only [em, sm, List.length_map] at this ⊢
    rw [mix_length]; exact this
  · obtain ⟨v, k1, k2⟩ := R.dat i y (em_get.mpr (mix_d.mp (em_get.mp h)))
    refine ⟨v, k1, k2.go x fun a z => ?_⟩
    rcases z with z | z
    · exact (hA a z).imp .inl id
    · exact .inl (.inr ((mixed_own vs args _ a).mp z))
  · obtain ⟨k1, k2⟩ := og (em_get.mp h)
    obtain ⟨a, ws, m1, m2, m3, m4⟩ := R'.own i true ys k1
    exact ⟨a, ws, sm_get.mpr ((k2 a).mpr m1), m2, m3, m4.avoid fun b z => .inl (z.imp id (sub b))⟩
  · obtain ⟨xs', k1⟩ := mix_own.mp ⟨xs, em_get.mp h1⟩
    obtain ⟨ys', k2⟩ := mix_own.mp ⟨ys, em_get.mp h2⟩
    exact R.inj i j p q xs' ys' a (em_get.mpr k1) (em_get.mpr k2) h3 h4
theorem end_step2 {N : List Str} {σ' : St} {e' : En} (R : Rel K κ (sm vs) H (em args)) (hpin : ∀ (i : Nat) (p : Bool) (xs : List D), args[i]? = some (.own p xs) → p = true)
    (s : Step K κ (L2.start N vs) H (em args ++ List.replicate (N.length - vs.length) none) σ' H' e') : Step K κ (sm vs) H (em args) (sm vs) H' (em (mix args (outsOf args e'))) where
  rel := end_rel R hpin s s.rel (fun _ z => .inl z) rfl
  ext := s.ext.mono fun a z => start_own.mp z
  own := fun a z => .inl ((mixed_own vs args _ a).mp z)
  pin := fun i xs h => ⟨by
    obtain ⟨zs, k⟩ := mix_own (y := outsOf args e').mpr ⟨xs, em_get.mp h⟩
    exact ⟨zs, em_get.mpr k⟩, rfl⟩
theorem end_val {N : List Str} {σ' : St} {e' : En} {r : RV} {v : V} (R : Rel K κ (sm vs) H (em args)) (hpin : ∀ (i : Nat) (p : Bool) (xs : List D), args[i]? = some (.own p xs) → p = true)
    (s : Step K κ (L2.start N vs) H (em args ++ List.replicate (N.length - vs.length) none) σ' H' e') (h : RpV K κ (L2.start N vs) H σ' H' e' r v) : RpV K κ (sm vs) H (sm vs) H' (em (mix args (outsOf args e'))) r v := by
  have sub : ∀ a, OwnAt (sm vs) (em (mix args (outsOf args e'))) a → OwnAt σ' e' a := fun a ⟨i, p, ys, z1, z2⟩ => by
    obtain ⟨xs, k2⟩ := mix_own.mp ⟨ys, em_get.mp z1⟩
    have hp := hpin i p xs k2
    subst hp
    obtain ⟨⟨ys', k3⟩, k4⟩ := s.pin i xs (e0_get.mpr k2)
    exact ⟨i, true, ys', k3, by rw [k4]; exact start_get.mpr (sm_get.mp z2)⟩
  cases r with
  | d x => exact Rp.avoid (fun a z => .inl (z.imp id (sub a))) h
  | own xs =>
    obtain ⟨a, ws, rfl, h1, h2, h3, h4⟩ := h
    exact ⟨a, ws, rfl, h1, h2, end_rel R hpin s h3 (fun b (z : κ.A b ∨ b = a) => z.imp id fun (z : b = a) => by subst z; exact h1) rfl, h4.avoid fun b z => .inl (z.imp id (sub b))⟩
end
/-- what a def's body finds around it -/
structure AtDef (X : Cx) (N : List Str) (sc : Scope) (k : Nat) (W : WX) (q : Str) (cd : Value) : Prop where
  N : X.N = N
  qual : X.env.qual = q
  code : X.env.code = cd
  sc : X.env.scope = sc
  calm : X.calm = true
  fn : ∀ x, X.fn x = true
  room : Room k X.A
  tk : L2N.Takes X W
  po : PassesOwn (model X.prog X.w) X.A X.env X.xe
/-- THE RULE for a def: its body's outcome is the promise. F: a plain function that the body's outcome meets, with some number of turns -/
theorem fn_ok {P : Program} {w : World} {K : PySem.W.Frag} {mg : Str → Option Value} {base : Heap} {x qual : Str} {st : Stmt} {f : Addr} {fd : FuncData} {N ps : List Str} {k : Nat} {G : Hp → Prop} {ec : Nat → Addr} {F : FnDen} {body : Nat → En → SOut}
    (Fu : Fun K x qual st f fd) (S : FnScope N ps (defScope st)) (hF : ∀ args, F args ≠ .bad → ∃ n, funOf N.length ps.length (body n) args = F args)
    (hb : ∀ (X : Cx) (A : AS) (W : WX) (n : Nat), X.prog = P → X.w = w → X.K = K → X.mg = mg → X.base = base → AtDef X N (defScope st) k W (qual ++ ".<locals>.") fd.code → PSs X (defBody st) (tS K ⟨A, G, ec⟩ W (body n))) :
    FnOk P w K mg base (L2N.CX P w) (k + 1) f fd ps (spOf K G ec ps.length F) := by
  obtain ⟨oc, od, kV, doc, pm, an, cdv, ct, osl, rfl, lk, hcd⟩ := Fu.ex
  refine fn_of lk hcd S (fun vs H Q E h => h.1) fun A outer s H vs Q E hr ⟨hl, As, args, R, hpin, h⟩ => ?_
  have hne : F args ≠ .bad := fun z => by rw [z] at h; exact h
  obtain ⟨n, hn⟩ := hF args hne
  refine ⟨_, hb (cxOf (L2N.CX P w) P w K mg base N qual (defScope st) f cdv A outer s H E) As (fun cls d _ H => E cls d H) n rfl rfl rfl rfl rfl ⟨rfl, rfl, rfl, rfl, rfl, fun _ => rfl, hr, L2N.takes_of rfl rfl rfl rfl, passes_of rfl⟩, ?_⟩
  have hlen : args.length = vs.length := by simpa [em, sm] using R.len
  have hN : vs.length ≤ N.length := by
    have := congrArg List.length S.pre
    rw [List.length_take] at this
    omega
  refine ⟨_, start_rel R hN, ?_⟩
  unfold funOf at hn
  rw [if_pos (by omega), ← hl] at hn
  cases q : body n (em args ++ List.replicate (N.length - vs.length) none) with
  | nx e =>
    rw [q] at hn
    rw [← hn] at h
    exact fun σ' H' s => h .non H' (end_step2 R hpin s) .non
  | rt r e =>
    rw [q] at hn
    rw [← hn] at h
    exact fun σ' v H' s rv => h v H' (end_step2 R hpin s) (end_val R hpin s rv)
  | exc c e =>
    rw [q] at hn
    rw [← hn] at h
    exact fun od σ' H' z s => h od H' z (end_step2 R hpin s)
  | bk e => rw [q] at hn; exact absurd hn.symm hne
  | ct e => rw [q] at hn; exact absurd hn.symm hne
  | bad => rw [q] at hn; exact absurd hn.symm hne
end Fw
namespace Fw
open PySem PySem.Spec L2

/-! ### a small language of its own: names are slots, defs are numbers -/
inductive Tgt where
  | name (i : Nat)
  | tup (ts : List Tgt)
inductive Prim where
  | len | abs | int | max | min | all | any | list | tuple | sum
  deriving DecidableEq
mutual
inductive IE where
  | hole
  | cst (d : D)
  | var (i : Nat)
  | peek (i : Nat)
  | bin (o : Operator) (a b : IE)
  | neg (a : IE)
  | cmp (o : CmpOp) (a b : IE)
  | chain (o o' : CmpOp) (a b c : IE)
  | not (a : IE)
  | and (a b : IE)
  | or (a b : IE)
  | ite (c a b : IE)
  | tup (es : List IE)
  | lst (es : List IE)
  | ix (a i : IE)
  | sl (a lo hi : IE)
  | rev (a : IE)
  | call (f n : Nat) (es : List IE)
  | call0 (f : Nat)
  | prim (p : Prim) (es : List IE)
  | isinst (T : String) (a : IE)
  | comp (elt : IE) (t : Tgt) (it : IT) (cond : IE) (own : List Nat)
  | pop (i : Nat)
  | att (m : Nat) (a : IE)
inductive IT where
  | seq (a : IE)
  | rng1 (a : IE)
  | rng2 (a b : IE)
  | enum (a : IE)
  | zip (a b : IE)
end
/-- what makes a new list -/
inductive IF where
  | lst (es : List IE)
  | call (f n : Nat) (es : List IE)
inductive IA where
  | v (e : IE)
  | o (f : IF)
inductive IS where
  | pass | brk | cont
  | expr (e : IE)
  | ret (e : IE)
  | retN
  | retF (f : IF)
  | asg (t : Tgt) (e : IE)
  | setF (i : Nat) (f : IF)
  | par (is : List Nat) (l : List IA)
  | app (i : Nat) (e : IE)
  | sub (i : Nat) (k e : IE)
  | ifs (c : IE) (a b : List IS)
  | for_ (t : Tgt) (it : IT) (body : List IS)
  | while_ (c : IE) (body : List IS)
  | raise (c : Nat)

/-! ### what it means -/
def isHole : IE → Bool
  | .hole => true
  | _ => false
mutual
def dTgt : Tgt → D → En → Option En
  | .name i => setD i
  | .tup ts => bTup ts.length (dTgts ts)
def dTgts : List Tgt → List D → En → Option En
  | [] => bNil
  | t :: ts => bCons (dTgt t) (dTgts ts)
end
mutual
def tSlots : Tgt → List Nat
  | .name i => [i]
  | .tup ts => tSlotsL ts
def tSlotsL : List Tgt → List Nat
  | [] => []
  | t :: ts => tSlots t ++ tSlotsL ts
end
def gBin : Operator → D → D → Option D
  | .Add => addD
  | .Sub => subD
  | .Mult => mulD
  | .FloorDiv => fdivD
  | .Mod => modD
  | .Pow => powD
  | _ => fun _ _ => none
def gCmp : CmpOp → D → D → Option D
  | .Eq => eqD
  | .NotEq => neD
  | .Lt => ltD
  | .LtE => leD
  | .Gt => gtD
  | .GtE => geD
  | .Is => isD
  | .IsNot => isNotD
  | .In => inD
  | .NotIn => notInD
def gPrim : Prim → List D → Option D
  | .len => lenD
  | .abs => absD
  | .int => intD
  | .max => maxD
  | .min => minD
  | .all => allD
  | .any => anyD
  | .sum => sumD
  | .list => listD
  | .tuple => tupleD
def iEnum (fa : En → EOut Ref) : En → EOut (List D) := fun e => (fa e).bind fun r e1 => match r with
  | .imm (.list ds) => .ok ((List.range ds.length).zip ds |>.map fun p => .tuple [.int (p.1 : Nat), p.2]) e1
  | _ => .bad
def iZip (fa fb : En → EOut Ref) : En → EOut (List D) := fun e => (fa e).bind fun r e1 => (fb e1).bind fun r2 e2 => match r, r2 with
  | .imm (.list xs), .imm (.list ys) => .ok ((xs.zip ys).map fun p => .tuple [p.1, p.2]) e2
  | .imm (.tuple xs), .imm (.tuple ys) => .ok ((xs.zip ys).map fun p => .tuple [p.1, p.2]) e2
  | _, _ => .bad
/-- a call that is tried: m 0: '' or the error's names; m 1: the value and '', or None and the names -/
def dAtt (nm : Nat → Nat → Option D) (m : Nat) (fa : En → EOut Ref) : En → EOut Ref := fun e => match fa e with
  | .ok r e1 => match r with
    | .imm d => if m = 0 then .ok (.imm (.str ⟨#[]⟩)) e1 else .ok (.imm (.tuple [d, .str ⟨#[]⟩])) e1
    | .slot _ => .bad
  | .exc c e1 => okD (nm m c) e1
  | .bad => .bad
structure FEnv where
  fn : Nat → FnDen
  /-- what a tried call gives for an error, by the way of trying and the error's class -/
  nm : Nat → Nat → Option D
section
variable (Φ : FEnv)
mutual
def den : IE → En → EOut Ref
  | .hole => fun _ => .bad
  | .cst d => fun e => .ok (.imm d) e
  | .var i => dVar i
  | .peek i => dPeek i
  | .bin o a b => dOp (gBin o) (den a) (den b)
  | .neg a => dUn negD (den a)
  | .cmp o a b => dOp (gCmp o) (den a) (den b)
  | .chain o o' a b c => dChain (gCmp o) (gCmp o') (den a) (den b) (den c)
  | .not a => dNot (den a)
  | .and a b => dBool false (den a) (den b)
  | .or a b => dBool true (den a) (den b)
  | .ite c a b => dIf (den c) (den a) (den b)
  | .tup es => dTup (denL es)
  | .lst es => dLst (denL es)
  | .ix a i => dOp ixD (den a) (den i)
  | .sl a lo hi => dSl (den a) (dPart (bif isHole lo then none else some (den lo))) (dPart (bif isHole hi then none else some (den hi)))
  | .rev a => dUn revD (den a)
  | .call f n es => dCallV n (Φ.fn f) (denL es)
  | .call0 f => dCall0 (Φ.fn f)
  | .prim p es => dCB (gPrim p) (denL es)
  | .isinst T a => dUn (fun d => some (.bool (isT T d))) (den a)
  | .comp elt t it cond own => dComp (denI it) own (dTgt t) (bif isHole cond then none else some (den cond)) (den elt)
  | .pop i => dPop i
  | .att m a => dAtt Φ.nm m (den a)
def denL : List IE → En → EOut (List Ref)
  | [] => dNil
  | a :: es => dCons (den a) (denL es)
def denI : IT → En → EOut (List D)
  | .seq a => iSeq (den a)
  | .rng1 a => iRng1 (den a)
  | .rng2 a b => iRng2 (den a) (den b)
  | .enum a => iEnum (den a)
  | .zip a b => iZip (den a) (den b)
end
def denF : IF → En → EOut (List D)
  | .lst es => dLstF (denL Φ es)
  | .call f n es => dCallF n (Φ.fn f) (denL Φ es)
def denA : IA → AK
  | .v e => .v (den Φ e)
  | .o f => .o (denF Φ f)
mutual
def denS (n : Nat) : IS → En → SOut
  | .pass => sPass
  | .brk => fun e => .bk e
  | .cont => fun e => .ct e
  | .expr a => sExpr (den Φ a)
  | .ret a => sRet (den Φ a)
  | .retN => sRetN
  | .retF f => sRetF (denF Φ f)
  | .asg t a => sAsg (dTgt t) (den Φ a)
  | .setF i f => sAsgF i (denF Φ f)
  | .par is l => sPar is (l.map (denA Φ))
  | .app i a => sApp i (den Φ a)
  | .sub i k a => sSub i (den Φ k) (den Φ a)
  | .ifs c a b => sIf (den Φ c) (denSs n a) (denSs n b)
  | .for_ t it body => sFor (denI Φ it) (dTgt t) (denSs n body)
  | .while_ c body => whileL (den Φ c) (denSs n body) n
  | .raise c => sRaise c
def denSs (n : Nat) : List IS → En → SOut
  | [] => sNil
  | s :: ss => sSeq (denS n s) (denSs n ss)
end
end
end Fw
namespace Fw
open PySem PySem.Spec L2

/-! ### enumerate, zip -/
section
variable {X : Cx} {κ : Kt} {W : WX} {pos p : Pos} {a b : Expr} {fa fb : En → EOut Ref}
theorem pair_new {K : PySem.W.Frag} {H : Hp} {M : AS} {T : Addr} {x y : V} {d d' : D} (hM : ∀ a, M a → ¬ Fre H a) (hT : H T = none) (h1 : Rp K H M x d) (h2 : Rp K H M y d') : Rp K (upd H T (.tup [x, y])) M (.ref T) (.tuple [d, d']) :=
  new_tup hM hT (.cons h1 (.cons h2 .nil))
def enumD (ds : List D) : List D := (List.range ds.length).zip ds |>.map fun p => .tuple [.int (p.1 : Nat), p.2]
def zipD (xs ys : List D) : List D := (xs.zip ys).map fun p => .tuple [p.1, p.2]
theorem enumD_get {ds : List D} {i : Nat} {d : D} (h : (enumD ds)[i]? = some d) : ∃ d', ds[i]? = some d' ∧ d = .tuple [.int (i : Nat), d'] := by
  unfold enumD at h
  rw [List.getElem?_map] at h
  obtain ⟨q, h1, rfl⟩ := Option.map_eq_some_iff.mp h
  obtain ⟨h2, h3⟩ := List.getElem?_zip_eq_some.mp h1
  rw [List.getElem?_range] at h2
  · cases h2; exact ⟨_, h3, rfl⟩
  · exact (List.getElem?_eq_some_iff.mp h3).1
theorem enumD_length (ds : List D) : (enumD ds).length = ds.length := by simp [enumD]
theorem zipD_length (xs ys : List D) : (zipD xs ys).length = min xs.length ys.length := by simp [zipD]
theorem zipD_get {xs ys : List D} {i : Nat} {d : D} (h : (zipD xs ys)[i]? = some d) : ∃ x y, xs[i]? = some x ∧ ys[i]? = some y ∧ d = .tuple [x, y] := by
  unfold zipD at h
  rw [List.getElem?_map] at h
  obtain ⟨q, h1, rfl⟩ := Option.map_eq_some_iff.mp h
  obtain ⟨h2, h3⟩ := List.getElem?_zip_eq_some.mp h1
  exact ⟨_, _, h2, h3, rfl⟩
theorem gives_enum (g : GOk κ.G) {σ : St} {H0 : Hp} {e0 : En} {p : Addr} {xs : List V} {ds : List D} (R : Rel X.K κ σ H0 e0) (h : FL X.K H0 (AO κ σ e0) p xs) (ra : RpAll X.K H0 (AO κ σ e0) xs ds) : Gives X.K κ σ H0 e0 (Ite X.K p) (enumD ds) where
  go := fun H i x hi => walk_enum.goes i H (by rw [ra.length, ← enumD_length]; exact hi) (h.keep x fun _ z => .inr z)
  stop := fun H x => by rw [enumD_length, ← ra.length]; exact walk_enum.stops H (h.keep x fun _ z => .inr z)
  yld := fun H i x H' M d ex y hd hG hM hs => by
    obtain ⟨d', hd', rfl⟩ := enumD_get hd
    have hi : i < xs.length := by rw [ra.length]; exact (List.getElem?_eq_some_iff.mp hd').1
    obtain ⟨T, u, v, rfl, hT, rfl, hu, hv⟩ := walk_enum.yields i H x H' hi (h.keep ex fun _ z => .inr z) y
    cases hu
    obtain ⟨w, h1, h2⟩ := ra.get hd'
    have hv : xs[i]? = some v := hv
    rw [hv] at h1; cases h1
    exact ⟨.new hT, g.new hG hT, pair_new hM hT (.int _) (h2.go ex.ao hs)⟩
theorem gives_zipL (g : GOk κ.G) {σ : St} {H0 : Hp} {e0 : En} {p q : Addr} {xs ys : List V} {ds es : List D} (R : Rel X.K κ σ H0 e0) (h : FL X.K H0 (AO κ σ e0) p xs) (ra : RpAll X.K H0 (AO κ σ e0) xs ds) (h' : FL X.K H0 (AO κ σ e0) q ys) (rb : RpAll X.K H0 (AO κ σ e0) ys es) : Gives X.K κ σ H0 e0 (Itz X.K p q) (zipD ds es) where
  go := fun H i x hi => (walk_zip rfl).goes i H (by rw [ra.length, rb.length, ← zipD_length]; exact hi) ⟨h.keep x fun _ z => .inr z, h'.keep x fun _ z => .inr z⟩
  stop := fun H x => by rw [zipD_length, ← ra.length, ← rb.length]; exact (walk_zip rfl).stops H ⟨h.keep x fun _ z => .inr z, h'.keep x fun _ z => .inr z⟩
  yld := fun H i x H' M d ex y hd hG hM hs => by
    have hi : i < min xs.length ys.length := by rw [ra.length, rb.length, ← zipD_length]; exact (List.getElem?_eq_some_iff.mp hd).1
    obtain ⟨d1, d2, hd1, hd2, rfl⟩ := zipD_get hd
    obtain ⟨T, u, v, rfl, hT, rfl, hu, hv⟩ := (walk_zip rfl).yields i H x H' hi ⟨h.keep ex fun _ z => .inr z, h'.keep ex fun _ z => .inr z⟩ y
    have hu : xs[i]? = some u := hu
    have hv : ys[i]? = some v := hv
    obtain ⟨w, h1, h2⟩ := ra.get hd1
    obtain ⟨w', h3, h4⟩ := rb.get hd2
    rw [hu] at h1; cases h1
    rw [hv] at h3; cases h3
    exact ⟨.new hT, g.new hG hT, pair_new hM hT (h2.go ex.ao hs) (h4.go ex.ao hs)⟩
theorem gives_zipT (g : GOk κ.G) {σ : St} {H0 : Hp} {e0 : En} {p q : Addr} {xs ys : List V} {ds es : List D} (R : Rel X.K κ σ H0 e0) (h : FT X.K H0 (AO κ σ e0) p xs) (ra : RpAll X.K H0 (AO κ σ e0) xs ds) (h' : FT X.K H0 (AO κ σ e0) q ys) (rb : RpAll X.K H0 (AO κ σ e0) ys es) : Gives X.K κ σ H0 e0 (RZ.ItzT X.K p q) (zipD ds es) where
  go := fun H i x hi => by
    have hi : i < min xs.length ys.length := by rw [ra.length, rb.length, ← zipD_length]; exact hi
    have h1 : i < xs.length := by omega
    have h2 : i < ys.length := by omega
    exact ⟨xs, ys, xs[i], ys[i], h.keep x fun _ z => .inr z, h'.keep x fun _ z => .inr z, by simp [h1], by simp [h2]⟩
  stop := fun H x => by
    rw [zipD_length, ← ra.length, ← rb.length]
    exact ⟨xs, ys, h.keep x fun _ z => .inr z, h'.keep x fun _ z => .inr z, by omega⟩
  yld := fun H i x H' M d ex y hd hG hM hs => by
    obtain ⟨d1, d2, hd1, hd2, rfl⟩ := zipD_get hd
    obtain ⟨T, u, v, rfl, hT, rfl, hu, hv⟩ := y
    have hu := hu xs (h.keep ex fun _ z => .inr z)
    have hv := hv ys (h'.keep ex fun _ z => .inr z)
    obtain ⟨w, h1, h2⟩ := ra.get hd1
    obtain ⟨w', h3, h4⟩ := rb.get hd2
    rw [hu] at h1; cases h1
    rw [hv] at h3; cases h3
    exact ⟨.new hT, g.new hG hT, pair_new hM hT (h2.go ex.ao hs) (h4.go ex.ao hs)⟩
/-- from the arguments' reading -/
theorem ei_enum (g : GOk κ.G) {elts : List Expr} {kk : Nat} {tpos : Pos} (hg : Gl X "enumerate") (hm : X.mg "enumerate" = none) (ha : PE X a (tE X.K κ W fa)) (hs : starEach [a] X.env = [(false, eval a X.env)]) :
    PI X (.Tuple elts kk tpos) (.Call (.Name "enumerate" p) [a] [] pos) (tI X.K κ W (iEnum fa)) := by
  refine pi_imp (pi_enum hg hm (ea_cons ha ea_nil hs) hs) fun σ H R ⟨e, Rl, h⟩ => ⟨e, Rl, ?_⟩
  unfold iEnum at h
  unfold dCons dNil
  cases q : fa e with
  | bad => rw [q] at h; exact h.elim
  | exc c e' => rw [q] at h; exact h
  | ok r e1 =>
    rw [q] at h
    cases r with
    | slot i => exact h.elim
    | imm d =>
      cases d with
      | list ds =>
        intro vs H1 s1 hrs
        obtain ⟨v, vr, rfl, rr, rrs⟩ := hrs
        cases rrs
        cases rr with
        | lst hl ra => exact ⟨_, _, rfl, hl.sq, h _ H1 s1 (gives_enum g s1.rel hl ra)⟩
      | _ => exact h.elim
theorem ei_zip (g : GOk κ.G) {elts : List Expr} {kk : Nat} {tpos : Pos} (hg : Gl X "zip") (hm : X.mg "zip" = none) (ha : PE X a (tE X.K κ W fa)) (hb : PE X b (tE X.K κ W fb)) (hs : starEach [a, b] X.env = (false, eval a X.env) :: starEach [b] X.env) (hs2 : starEach [b] X.env = [(false, eval b X.env)]) :
    PI X (.Tuple elts kk tpos) (.Call (.Name "zip" p) [a, b] [] pos) (tI X.K κ W (iZip fa fb)) := by
  refine pi_imp (RZ.pi_zipA hg hm (ea_cons ha (ea_cons hb ea_nil hs2) hs) hs (by rw [hs2]; rfl)) fun σ H R ⟨e, Rl, h⟩ => ⟨e, Rl, ?_⟩
  unfold iZip at h
  unfold dCons dNil
  cases q : fa e with
  | bad => rw [q] at h; exact h.elim
  | exc c e' => rw [q] at h; exact h
  | ok r e1 =>
    rw [q] at h
    simp only [EOut.bind_ok] at h ⊢
    cases q2 : fb e1 with
    | bad => rw [q2] at h; exact h.elim
    | exc c e' => rw [q2] at h; exact h
    | ok r2 e2 =>
      rw [q2] at h
      simp only [EOut.bind_ok] at h ⊢
      intro vs H1 s1 hrs
      obtain ⟨v, vr, rfl, rr, w, wr, rfl, rw', rrs⟩ := hrs
      cases rrs
      cases r with
      | slot i => exact h.elim
      | imm d =>
        cases r2 with
        | slot i => cases d <;> exact h.elim
        | imm d2 =>
          cases d with
          | list ds =>
            cases d2 with
            | list es =>
              cases rr with
              | lst hl ra =>
                cases rw' with
                | lst hl2 rb => exact ⟨_, _, _, _, rfl, .inl ⟨hl.sq, hl2.sq, h _ H1 s1 (gives_zipL g s1.rel hl ra hl2 rb)⟩⟩
            | _ => exact h.elim
          | tuple ds =>
            cases d2 with
            | tuple es =>
              cases rr with
              | tup hl ra =>
                cases rw' with
                | tup hl2 rb => exact ⟨_, _, _, _, rfl, .inr ⟨hl.sq, hl2.sq, h _ H1 s1 (gives_zipT g s1.rel hl ra hl2 rb)⟩⟩
            | _ => exact h.elim
          | _ => exact h.elim
end
end Fw
/-! the library's steps for iterators that end, told anew for code that runs while an exception is handled -/
namespace Fw
open PySem PySem.Spec PyProof.Rows L2
section
variable {prog : Program} {w : World} {A : Around} {E : Value → Shared → Prop} {s : Shared}
theorem stop_hot {α : Type} {x1 : Addr} {Q : α → Shared → Prop} (hot : HotX.HotAt A x1 s.heap) (h : ∀ h' e, (∀ b o, s.heap.get? b = some o → h'.get? b = some o) → (∃ o, h'.get? e = some o ∧ o.cls = .type "StopIteration") → E (.ref e) { s with heap := h' }) :
    wpAny (model prog w) A (newExc (.type "StopIteration") [] >>= fun e => (raiseNew e : Sem α)) Q E s := by
  obtain ⟨hh, o1, vs1, h1, d1, c1⟩ := hot
  refine wpAny_bind ?_
  simp only [newExc, newTuple]
  refine wpAny_bind (wpAny_newObj_type ?_ (by size_fits))
  refine wpAny_bind (m := firstArgMember _ _) (wpAny_of_eq (a := Value.none) (by first | rfl | (simp only [firstArgMember]; rfl)) ?_)
  refine wpAny_newObj_type ?_ (by size_fits)
  refine HotX.raiseNew_hot ⟨hh, o1, vs1, Heap.get?_push_of_some _ (Heap.get?_push_of_some _ h1), d1, c1⟩ (Nat.ne_of_lt (Heap.lt_size (Heap.get?_push_of_some _ h1))) (Heap.get?_push_size _ rfl) rfl (by first | (simp; done) | (simp; omega) | (simp only [Array.size_append]; simp; omega)) ?_
  refine h _ _ (fun b o e => ?_) ⟨_, Heap.get?_update_self _ (Heap.get?_push_size _ rfl) rfl, rfl⟩
  rw [Heap.get?_update_other _ _ (Nat.ne_of_gt (Heap.lt_size (Heap.get?_push_of_some _ e)))]
  exact Heap.get?_push_of_some _ (Heap.get?_push_of_some _ e)
/-- the handled exception through a change elsewhere -/
theorem hot_mono {x1 : Addr} {h h' : Heap} (c : HotX.HotAt A x1 h) (k : ∀ o, h.get? x1 = some o → h'.get? x1 = some o) : HotX.HotAt A x1 h' := by
  obtain ⟨hh, o1, vs1, h1, d1, c1⟩ := c
  exact ⟨hh, o1, vs1, k _ h1, d1, c1⟩
/-- the handled exception is none of these -/
theorem hot_ne {x1 a : Addr} {h : Heap} {o : Obj} (c : HotX.HotAt A x1 h) (e : h.get? a = some o) (n : ∀ vs, o.data = .fields vs → vs[2]? ≠ some .none) : x1 ≠ a := fun z => by
  obtain ⟨_, o1, vs1, h1, d1, c1⟩ := c
  subst z
  rw [e] at h1; cases h1
  exact n vs1 d1 c1
theorem nextOf_list_end_hot {it l x1 : Addr} {i : Nat} {items : Array Value} {Q : Value → Shared → Prop} (hot : HotX.HotAt A x1 s.heap) (hit : s.heap.IsListIter it l i) (hl : s.heap.IsList l items) (hx : items[i]? = none)
    (hE : ∀ h' e, Heap.ExtBut it s.heap h' → (∃ o, h'.get? e = some o ∧ o.cls = .type "StopIteration") → E (.ref e) { s with heap := h' }) : wpAny (model prog w) A (Builtin.SmallTypes.nextOf (.ref it)) Q E s := by
  obtain ⟨o, ho, hc, hd⟩ := id hit
  obtain ⟨ol, hol, _, nl, hdl⟩ := hl
  have hne : x1 ≠ it := hot_ne hot ho fun vs e => by rw [hd] at e; cases e; simp
  unfold Builtin.SmallTypes.nextOf
  refine wpAny_bind (wpAny_callSpecial?_slot (name := Str.ofString "__next__") hit.typeIs slot_listiter_next (wpAny_call_entry slot_listiter_next hit.typeIs entry_listiter_next ?_ (args_listiter_next _)))
  show wpAny _ _ (field (.ref it) 0 >>= _) _ _ s
  refine wpAny_bind (wpAny_field ho hd (x := .ref l) rfl ?_)
  show wpAny _ _ (if (Value.ref l == Value.none) = true then _ else _) _ _ s
  rw [if_neg (show ¬ ((Value.ref l == Value.none) = true) from Bool.false_ne_true)]
  show wpAny _ _ (field (.ref it) 1 >>= _) _ _ s
  refine wpAny_bind (wpAny_field ho hd (x := .int i 0) rfl ?_)
  show wpAny _ _ (seqItems? (.ref l) >>= _) _ _ s
  refine wpAny_bind (wpAny_seqItems hol hdl ?_)
  simp only [Int.toNat_natCast, hx]
  refine wpAny_bind (wpAny_rule (wpAny_bind (wpAny_setField ho hd (by simp) ?_)))
  refine stop_hot (x1 := x1) ?_ fun h' e k q => ?_
  · exact hot_mono (A := A) hot fun o' e => by
      show (s.heap.update it _).get? x1 = _
      rw [Heap.get?_update_other _ _ hne.symm]; exact e
  · refine hE h' e (fun b u hb z => k b u ?_) q
    show (s.heap.update it _).get? b = _
    rw [Heap.get?_update_other _ _ (Ne.symm hb)]; exact z
theorem next_tuple_end_hot {it t x1 : Addr} {i : Nat} {items : Array Value} {Q : Option Value → Shared → Prop} (hot : HotX.HotAt A x1 s.heap) (hit : IsTupIter s.heap it t i) (ht : IsTup s.heap t items) (hx : items[i]? = none)
    (hQ : ∀ h', Heap.ExtBut it s.heap h' → Q none { s with heap := h' }) : wpAny (model prog w) A (pyNext (.ref it)) Q E s := by
  obtain ⟨o, ho, hc, hd⟩ := id hit
  obtain ⟨ol, hol, _, nl, hdl⟩ := ht
  have hne : x1 ≠ it := hot_ne hot ho fun vs e => by rw [hd] at e; cases e; simp
  unfold pyNext
  refine wpAny_bind (wpAny_attempt (wpAny_callSpecial?_slot (name := Str.ofString "__next__") hit.typeIs slot_tupleiter_next (wpAny_call_entry slot_tupleiter_next hit.typeIs entry_tupleiter_next ?_ (args_tupleiter_next _))))
  show wpAny _ _ (field (.ref it) 0 >>= _) _ _ s
  refine wpAny_bind (wpAny_field ho hd (x := .ref t) rfl ?_)
  show wpAny _ _ (if (Value.ref t == Value.none) = true then _ else _) _ _ s
  rw [if_neg (show ¬ ((Value.ref t == Value.none) = true) from Bool.false_ne_true)]
  show wpAny _ _ (field (.ref it) 1 >>= _) _ _ s
  refine wpAny_bind (wpAny_field ho hd (x := .int i 0) rfl ?_)
  show wpAny _ _ (seqItems? (.ref t) >>= _) _ _ s
  refine wpAny_bind (wpAny_seqItems hol hdl ?_)
  simp only [Int.toNat_natCast, hx]
  refine wpAny_bind (wpAny_rule (wpAny_bind (wpAny_setField ho hd (by simp) ?_)))
  refine stop_hot (x1 := x1) ?_ fun h' e k q => ?_
  · exact hot_mono (A := A) hot fun o' e => by
      show (s.heap.update it _).get? x1 = _
      rw [Heap.get?_update_other _ _ hne.symm]; exact e
  · obtain ⟨oe, q1, q2⟩ := q
    refine wpAny_bind (wpAny_isInstance (T := "StopIteration") (b := true) ⟨oe, q1, q2⟩ isSubtype_stop ?_)
    refine wpAny_pure (hQ h' fun b u hb z => k b u ?_)
    show (s.heap.update it _).get? b = _
    rw [Heap.get?_update_other _ _ (Ne.symm hb)]; exact z
theorem zip_next_end_hot {x1 z TI TO i1 i2 l1 l2 : Addr} {k1 k2 : Nat} {xs ys : Array Value} {a b : Value} {Q : Fin → Shared → Prop} (hot : HotX.HotAt A x1 s.heap) (D : ZipApart z TI TO i1 i2 l1 l2)
    (hz : IsZip s.heap z TI TO .none) (hTI : IsPair s.heap TI (.ref i1) (.ref i2)) (hTO : IsPair s.heap TO a b)
    (h1 : s.heap.IsListIter i1 l1 k1) (h2 : s.heap.IsListIter i2 l2 k2) (hl1 : s.heap.IsList l1 xs) (hl2 : s.heap.IsList l2 ys) (hend : xs[k1]? = none ∨ ys[k2]? = none)
    (hE : ∀ h' e, (∀ c o, c ≠ z → c ≠ TO → c ≠ i1 → c ≠ i2 → s.heap.get? c = some o → h'.get? c = some o) → (∃ o, h'.get? e = some o ∧ o.cls = .type "StopIteration") → E (.ref e) { s with heap := h' }) :
    wpAny (model prog w) A (Builtin.«zip.__next__» ⟨[.ref z], []⟩) Q E s := by
  have nz : x1 ≠ z := hot_ne hot hz fun vs e => by cases e; simp
  have nTO : x1 ≠ TO := hot_ne hot hTO fun vs e => by cases e
  have n1 : x1 ≠ i1 := by obtain ⟨o1, e1, _, d1⟩ := h1; exact hot_ne hot e1 fun vs e => by rw [d1] at e; cases e; simp
  show wpAny _ _ (field (.ref z) 2 >>= _) _ _ _
  refine wpAny_bind (wpAny_field hz rfl (x := .bool false) rfl ?_)
  show wpAny _ _ (field (.ref z) 3 >>= _) _ _ _
  refine wpAny_bind (wpAny_field hz rfl (x := .ref TI) rfl ?_)
  refine wpAny_bind (wpAny_seqItems hTI rfl ?_)
  show wpAny _ _ (Builtin.SmallTypes.ownedTupleIsFree (.ref z) >>= _) _ _ _
  refine wpAny_bind ?_
  unfold Builtin.SmallTypes.ownedTupleIsFree
  refine wpAny_bind (wpAny_field hz rfl (x := .none) rfl (wpAny_pure ?_))
  simp only [if_true]
  refine wpAny_bind (wpAny_rule ?_)
  refine wpAny_bind (wpAny_field hz rfl (x := .ref TO) rfl ?_)
  refine wpAny_bind (wpAny_setField_rec hz (by simp) fun h₁ hz₁ hs₁ => ?_)
  replace hz₁ : IsZip h₁ z TI TO .ellipsis := hz₁
  refine wpAny_bind ?_
  simp only [List.zipIdx_cons, List.zipIdx_nil, List.forIn_cons, List.forIn_nil]
  refine wpAny_bind (wpAny_bind (wpAny_onRaise ?_))
  show wpAny _ _ (Builtin.SmallTypes.nextOf (.ref i1) >>= _) _ _ _
  cases hx : xs[k1]? with
  | none =>
    refine wpAny_bind (nextOf_list_end_hot (hot_mono (A := A) hot fun o e => hs₁.extBut _ _ nz e) (h1.extBut hs₁.extBut D.i1z) (hl1.extBut hs₁.extBut D.l1z) hx fun h₂ e hs₂ he => ?_)
    obtain ⟨oe, hoe, hce⟩ := he
    have hz₂ : IsZip h₂ z TI TO .ellipsis := hs₂ _ _ D.i1z.symm hz₁
    have hez : e ≠ z := fun x => by subst x; rw [hz₂] at hoe; cases hoe; simp at hce
    refine wpAny_setField_rec hz₂ (by simp) fun h₃ _ hs₃ => hE h₃ e (fun c o c1 _ c3 _ x => hs₃.extBut _ _ c1 (hs₂ _ _ c3 (hs₁.extBut _ _ c1 x))) ⟨oe, hs₃.extBut _ _ hez hoe, hce⟩
  | some x =>
    have hy : ys[k2]? = none := by rcases hend with h | h; rw [hx] at h; cases h; exact h
    refine wpAny_bind (wpAny_nextOf_list_item (h1.extBut hs₁.extBut D.i1z) (hl1.extBut hs₁.extBut D.l1z) hx fun h₂ h1₂ hs₂ => wpAny_pure ?_)
    have hTO₂ : IsPair h₂ TO a b := hs₂.extBut _ _ D.TOi1 (hs₁.extBut _ _ D.TOz hTO)
    refine wpAny_bind (wpAny_seqItems hTO₂ rfl ?_)
    refine wpAny_bind (wpAny_updateSeq_pair hTO₂ fun h₃ hTO₃ hs₃ => ?_)
    refine wpAny_bind (wpAny_letGo (wpAny_pure ?_))
    refine wpAny_bind (wpAny_bind (wpAny_onRaise ?_))
    show wpAny _ _ (Builtin.SmallTypes.nextOf (.ref i2) >>= _) _ _ _
    refine wpAny_bind (nextOf_list_end_hot (hot_mono (A := A) hot fun o e => hs₃.extBut _ _ nTO (hs₂.extBut _ _ n1 (hs₁.extBut _ _ nz e))) (((h2.extBut hs₁.extBut D.i2z).extBut hs₂.extBut D.i12.symm).extBut hs₃.extBut D.TOi2.symm)
      (((hl2.extBut hs₁.extBut D.l2z).extBut hs₂.extBut D.l2i1).extBut hs₃.extBut D.l2TO) hy fun h₄ e hs₄ he => ?_)
    obtain ⟨oe, hoe, hce⟩ := he
    have hz₄ : IsZip h₄ z TI TO .ellipsis := hs₄ _ _ D.i2z.symm (hs₃.extBut _ _ D.TOz.symm (hs₂.extBut _ _ D.i1z.symm hz₁))
    have hez : e ≠ z := fun x => by subst x; rw [hz₄] at hoe; cases hoe; simp at hce
    refine wpAny_setField_rec hz₄ (by simp) fun h₅ _ hs₅ => hE h₅ e (fun c o c1 c2 c3 c4 x => hs₅.extBut _ _ c1 (hs₄ _ _ c4 (hs₃.extBut _ _ c2 (hs₂.extBut _ _ c3 (hs₁.extBut _ _ c1 x))))) ⟨oe, hs₅.extBut _ _ hez hoe, hce⟩

theorem pyNext_zip_end_hot {x1 z TI TO i1 i2 l1 l2 : Addr} {k1 k2 : Nat} {xs ys : Array Value} {a b : Value} {Q : Option Value → Shared → Prop} (hot : HotX.HotAt A x1 s.heap) (D : ZipApart z TI TO i1 i2 l1 l2)
    (hz : IsZip s.heap z TI TO .none) (hTI : IsPair s.heap TI (.ref i1) (.ref i2)) (hTO : IsPair s.heap TO a b)
    (h1 : s.heap.IsListIter i1 l1 k1) (h2 : s.heap.IsListIter i2 l2 k2) (hl1 : s.heap.IsList l1 xs) (hl2 : s.heap.IsList l2 ys) (hend : xs[k1]? = none ∨ ys[k2]? = none)
    (hQ : ∀ h', (∀ c o, c ≠ z → c ≠ TO → c ≠ i1 → c ≠ i2 → s.heap.get? c = some o → h'.get? c = some o) → Q none { s with heap := h' }) : wpAny (model prog w) A (pyNext (.ref z)) Q E s := by
  have hT : s.TypeIs (.ref z) "zip" := ⟨_, hz, rfl⟩
  unfold pyNext
  refine wpAny_bind (wpAny_attempt (wpAny_callSpecial?_slot (name := Str.ofString "__next__") hT F.slot_zip_next
    (wpAny_call_entry F.slot_zip_next hT F.entry_zip_next (zip_next_end_hot (A := A.in1) (x1 := x1) hot D hz hTI hTO h1 h2 hl1 hl2 hend fun h' e hk he => ?_) (F.args_zip_next_1 _))))
  obtain ⟨o, ho, hc⟩ := he
  refine wpAny_bind (wpAny_isInstance (T := "StopIteration") (b := true) ⟨o, ho, hc⟩ isSubtype_stop ?_)
  exact wpAny_pure (hQ _ hk)

theorem unpackItems_tuple_hot {x1 t : Addr} {items : Array Value} {Q : List Value → Shared → Prop} (hot : HotX.HotAt A x1 s.heap) (ht : IsTup s.heap t items)
    (hQ : ∀ h', Heap.ExtBut s.heap.objs.size s.heap h' → Q items.toList { s with heap := h' }) : wpAny (model prog w) A (unpackItems (.ref t) items.size none) Q E s := by
  have hlt : t ≠ s.heap.objs.size := by obtain ⟨o, ho, _⟩ := ht; exact Nat.ne_of_lt (Heap.lt_size ho)
  unfold unpackItems
  refine wpAny_bind ?_
  · unfold notIterableAtAll
    refine wpAny_bind (wpAny_specialOf ht.typeIs slot_tuple_iter.lookup ?_)
    refine wpAny_pure ?_
    simp only [Bool.false_eq_true, if_false]
    refine wpAny_bind (wpAny_holding (iter_tuple ht ?_))
    refine wpAny_bind (wpAny_holding (draw_tuple hlt items.size 0 _ _ ⟨_, Heap.get?_push_size _ rfl, rfl, rfl⟩ (ht.push _) (by omega) fun h₁ hit₁ hs₁ => ?_))
    have hall : List.take items.size (List.drop 0 items.toList) = items.toList := by
      rw [List.drop_zero]; exact List.take_of_length_le (by simp)
    rw [hall]
    rw [if_neg (by simp)]
    have ht₁ : IsTup h₁ t items := (ht.push _).extBut hs₁.extBut hlt
    refine wpAny_bind (wpAny_holding (next_tuple_end_hot (hot_mono (A := A) hot fun o e => hs₁.extBut _ _ (Nat.ne_of_lt (Heap.lt_size e)) (Heap.get?_push_of_some _ e)) hit₁ ht₁ (by simp) fun h₂ he₂ => ?_))
    simp only [Option.isSome_none, Bool.false_eq_true, if_false]
    refine wpAny_pure (hQ h₂ fun b o hb e => he₂ b o hb (hs₁.extBut b o hb (Heap.get?_push_of_some _ e)))

theorem unpack_tuple_hot {x1 t : Addr} {items : Array Value} {targets : List (Bool × (Value → Sem Unit))} {Q : Unit → Shared → Prop} (hot : HotX.HotAt A x1 s.heap) (ht : IsTup s.heap t items)
    (hn : targets.length = items.size) (hstar : targets.findIdx? (·.1) = none)
    (h : ∀ h', Heap.ExtBut s.heap.objs.size s.heap h' → wpAny (model prog w) A (assignInOrder (targets.map (·.2)) items.toList) Q E { s with heap := h' }) :
    wpAny (model prog w) A (unpack (.ref t) targets) Q E s := by
  unfold unpack
  rw [hn, hstar]
  exact wpAny_bind (wpAny_holding (unpackItems_tuple_hot hot ht h))
theorem assign_Tuple_hot {x0 : Addr} {env : PySem.Env} {elts : List Expr} {x1} {pos : Pos} {t : Addr} {items : Array Value} {Q : Unit → Shared → Prop} (hot : HotX.HotAt A x0 s.heap) (ht : IsTup s.heap t items)
    (hn : (assignEach elts env).length = items.size) (hstar : (assignEach elts env).findIdx? (·.1) = none)
    (h : ∀ h', Heap.ExtBut s.heap.objs.size s.heap h' → wpAny (model prog w) A (assignInOrder ((assignEach elts env).map (·.2)) items.toList) Q E { s with heap := h' }) :
    wpAny (model prog w) A (assign (.Tuple elts x1 pos) env (.ref t)) Q E s := by
  rw [assign_Tuple]
  exact wpAny_bind (wpAny_standAt (unpack_tuple_hot hot ht hn hstar h))
end
end Fw
namespace Fw
open PySem PySem.Spec PyProof.Rows L2
/-- wherever the context's state holds, the handled exception stands, its context None -/
def HotI (X : Cx) : Prop := ∃ x1, ∀ (pins : List (Addr × Obj)) (σ : L2.St) (H : Hp) (s : Shared), Inv X pins σ H s → HotX.HotAt X.A x1 s.heap
theorem hotI_of {X : Cx} (c : L2H.HotC X) : HotI X := by
  obtain ⟨p, ⟨hh, v1, e1, c1⟩, hp⟩ := c
  exact ⟨p.1, fun pins σ H s I => ⟨hh, p.2, v1, (I.pin p (List.mem_append_left _ hp)).1, e1, c1⟩⟩
theorem hotI_blk {X : Cx} {pins : List (Addr × Obj)} {σ : L2.St} {H : Hp} {s : Shared} {scope : Scope} {cenv : PySem.Env} {fp : List Addr} {p : Addr × Obj} (I : Inv X pins σ H s) (hh : L2H.Hot1 X.A p) (hp : p ∈ X.pn) (hf : ∀ b ∈ fp, FpOk X pins H b) : HotI (X.blk s H scope cenv fp) := by
  obtain ⟨h1, v1, e1, c1⟩ := hh
  obtain ⟨g, n, nl, nf, _⟩ := I.pin p (List.mem_append_left _ hp)
  have nfp : p.1 ∉ fp := fun z => (hf p.1 z).2.2.2.2.2 p (List.mem_append_left _ hp) rfl
  have nst : p.1 ∉ frs X.stack := fun z => by
    rcases List.mem_cons.mp (I.stkSub p.1 z) with e | z
    · exact nl e
    · exact nf z
  exact ⟨p.1, fun pins' σ' H' s' I' => ⟨h1, p.2, v1, I'.base.keep p.1 p.2 g n nst nfp, e1, c1⟩⟩
structure TurnQ (P : Program) (w : World) (K : PySem.W.Frag) (tg : Expr) (J : It) (fp : List Addr) (it : Addr) (tn : Nat → Heap → Prop) : Prop where
  mem : it ∈ fp
  obj : ∀ i h, tn i h → ∀ b ∈ fp, ∃ o, h.get? b = some o ∧ ∀ v, o.data ≠ .cell v
  keep : ∀ i h h', tn i h → (∀ b ∈ fp, ∀ o, h.get? b = some o → h'.get? b = some o) → tn i h'
  item : ∀ (X : Cx), X.prog = P → X.w = w → X.K = K → HotI X → ∀ (i : Nat) (pins : List (Addr × Obj)) (s : Shared) (σ : L2.St) (H : Hp) (E : Value → Shared → Prop), Inv X pins σ H s → (∀ b ∈ fp, FpOk X pins H b) → tn i s.heap → J.go i H →
    wpAny (model P w) X.A (pyNext (.ref it)) (fun r s1 => ∃ u, r = some u ∧
      wpAny (model P w) X.A (letOwnedTupleGo tg (.ref it) u) (fun _ s2 => ∃ x H', Inv X pins σ H' s2 ∧ RelV x u ∧ J.yld i H x H' ∧ tn (i + 1) s2.heap ∧ ∀ b ∈ fp, H' b = none) E s1) E s
  done : ∀ (X : Cx), X.prog = P → X.w = w → X.K = K → HotI X → ∀ (i : Nat) (pins : List (Addr × Obj)) (s : Shared) (σ : L2.St) (H : Hp) (E : Value → Shared → Prop), Inv X pins σ H s → (∀ b ∈ fp, FpOk X pins H b) → tn i s.heap → J.stop i H →
    wpAny (model P w) X.A (pyNext (.ref it)) (fun r s1 => r = none ∧ Inv X pins σ H s1) E s
  self : ∀ (A : Around) (i : Nat) (s : Shared) (Q : Value → Shared → Prop) (E : Value → Shared → Prop), tn i s.heap → Q (.ref it) s → wpAny (model P w) A (pyIter (.ref it)) Q E s
def PIEQ (X : Cx) (pins : List (Addr × Obj)) (σ : L2.St) (tg : Expr) (R : It → Hp → Prop) (itv : Value) (s2 : Shared) : Prop :=
  ∃ (it : Addr) (fp : List Addr) (tn : Nat → Heap → Prop) (J : It) (H' : Hp), itv = .ref it ∧ Inv X pins σ H' s2 ∧ TurnQ X.prog X.w X.K tg J fp it tn ∧ tn 0 s2.heap ∧ (∀ b ∈ fp, FpOk X pins H' b) ∧ R J H'
structure PIQ (X : Cx) (tg iter : Expr) (wi : TI) : Prop where
  run : ∀ (pins : List (Addr × Obj)) (s : Shared) (σ : L2.St) (H : Hp) (R : It → Hp → Prop), Inv X pins σ H s → wi σ H R →
    wpAny (model X.prog X.w) X.A (eval iter X.env) (fun v s1 => wpAny (model X.prog X.w) X.A (pyIter v) (PIEQ X pins σ tg R) X.xe s1) X.xe s
theorem turn_zipQ {P : Program} {w : World} {K : PySem.W.Frag} {elts : List Expr} {kk : Nat} {tpos : Pos} {a b z TI TO i1 i2 : Addr} (D : ZipApart z TI TO i1 i2 a b) :
    TurnQ P w K (.Tuple elts kk tpos) (Itz K a b) [z, TI, TO, i1, i2] z (fun i h => IsZip h z TI TO .none ∧ IsPair h TI (.ref i1) (.ref i2) ∧ (∃ x y, IsPair h TO x y) ∧ h.IsListIter i1 a i ∧ h.IsListIter i2 b i) where
  mem := by simp
  obj := fun i h st c hc => by
    obtain ⟨hz, hTI, ⟨x, y, hTO⟩, ⟨o1, e1, _, d1⟩, ⟨o2, e2, _, d2⟩⟩ := st
    have e' : c = z ∨ c = TI ∨ c = TO ∨ c = i1 ∨ c = i2 := by simpa using hc
    rcases e' with q | q | q | q | q
    · rw [q]; exact ⟨_, hz, fun v q => nomatch q⟩
    · rw [q]; exact ⟨_, hTI, fun v q => nomatch q⟩
    · rw [q]; exact ⟨_, hTO, fun v q => nomatch q⟩
    · rw [q]; exact ⟨o1, e1, fun v q => by rw [d1] at q; cases q⟩
    · rw [q]; exact ⟨o2, e2, fun v q => by rw [d2] at q; cases q⟩
  keep := fun i h h' st k => by
    obtain ⟨hz, hTI, ⟨x, y, hTO⟩, h1, h2⟩ := st
    exact ⟨k z (by simp) _ hz, k TI (by simp) _ hTI, ⟨x, y, k TO (by simp) _ hTO⟩, h1.at fun o q => k i1 (by simp) o q, h2.at fun o q => k i2 (by simp) o q⟩
  item := by
    intro X hP hw hK hc i pins s σ H E I hf st hg
    subst hP hw hK
    obtain ⟨hz, hTI, ⟨x0, y0, hTO⟩, h1, h2⟩ := st
    obtain ⟨xs, ys, x, y, hqx, hqy, hx, hy⟩ := hg
    obtain ⟨its, rv, p, _⟩ := I.list hqx
    obtain ⟨its2, rv2, p2, _⟩ := I.list hqy
    obtain ⟨u, hu, ru⟩ := rv.get hx
    obtain ⟨u2, hu2, ru2⟩ := rv2.get hy
    have hzl : z < s.heap.objs.size := Heap.lt_size hz
    refine wpAny_pyNext_zip_item D hz hTI hTO h1 h2 p.isList p2.isList (x := u) (y := u2) (by simpa using hu) (by simpa using hu2) fun h' z' TO' h1' h2' hT hsz hk => ?_
    refine ⟨_, rfl, wpAny_letOwnedTupleGo_zip (s := { s with heap := h' }) z' fun h'' z'' sb => ?_⟩
    have hT2 : h''.get? s.heap.objs.size = some { cls := .type "tuple", data := .seq #[u, u2] } := (sb.2 _ (Nat.ne_of_gt hzl)).trans hT
    have new : ObjOk X.prog X.w (upd H s.heap.objs.size (.tup [x, y])) h'' s.heap.objs.size (.tup [x, y]) :=
      ⟨by show 2 ≤ sizeLine; decide, [u, u2], .cons ru (.cons ru2 .nil), ⟨_, hT2, rfl, _, rfl⟩⟩
    have I1 : Inv X pins σ (upd H s.heap.objs.size (.tup [x, y])) { s with heap := h'' } :=
      I.turnedNew (t' := s.toks) (ch := [z, TI, TO, i1, i2]) (fun c o hb q => (sb.2 c (fun q' => hb (by simp [q']))).trans (hk c o (fun q' => hb (by simp [q'])) (fun q' => hb (by simp [q'])) (fun q' => hb (by simp [q'])) (fun q' => hb (by simp [q'])) q)) hf (Nat.le_refl _) new
    refine ⟨.ref s.heap.objs.size, _, I1, rfl, ⟨_, x, y, rfl, I.hok.fresh (Nat.le_refl _), rfl, fun l hl => by rw [I.list_inj hl hqx]; exact hx, fun l hl => by rw [I.list_inj hl hqy]; exact hy⟩, ⟨z'', ?_, ⟨u, u2, ?_⟩, ?_, ?_⟩, fun c hcm => ?_⟩
    · exact (sb.2 _ D.TIz).trans (hk _ _ D.TIz D.TITO D.TIi1 D.TIi2 hTI)
    · exact (sb.2 _ D.TOz).trans TO'
    · exact h1'.at fun o q => (sb.2 _ D.i1z).trans q
    · exact h2'.at fun o q => (sb.2 _ D.i2z).trans q
    · have hlt : c < s.heap.objs.size := by
        have e' : c = z ∨ c = TI ∨ c = TO ∨ c = i1 ∨ c = i2 := by simpa using hcm
        rcases e' with q | q | q | q | q
        · rw [q]; exact hzl
        · rw [q]; exact Heap.lt_size hTI
        · rw [q]; exact Heap.lt_size hTO
        · rw [q]; obtain ⟨_, e1, _⟩ := h1; exact Heap.lt_size e1
        · rw [q]; obtain ⟨_, e2, _⟩ := h2; exact Heap.lt_size e2
      rw [upd_ne (Nat.ne_of_lt hlt)]
      exact (hf c hcm).1
  done := by
    intro X hP hw hK hc i pins s σ H E I hf st hg
    subst hP hw hK
    obtain ⟨hz, hTI, ⟨x0, y0, hTO⟩, h1, h2⟩ := st
    obtain ⟨xs, ys, hqx, hqy, hend⟩ := hg
    obtain ⟨its, rv, p, _⟩ := I.list hqx
    obtain ⟨its2, rv2, p2, _⟩ := I.list hqy
    have l1 := rv.length
    have l2 := rv2.length
    have he : its.toArray[i]? = none ∨ its2.toArray[i]? = none := by
      rcases hend with q | q
      · exact .inl (by simp; omega)
      · exact .inr (by simp; omega)
    exact pyNext_zip_end_hot (hc.choose_spec pins σ H s I) D hz hTI hTO h1 h2 p.isList p2.isList he fun h' hk => ⟨rfl, I.turnedL (t' := s.toks) (ch := [z, TI, TO, i1, i2]) (fun c o hb q =>
      hk c o (fun q' => hb (by simp [q'])) (fun q' => hb (by simp [q'])) (fun q' => hb (by simp [q'])) (fun q' => hb (by simp [q'])) q) hf⟩
  self := fun A i s Q E st h => wpAny_pyIter_zip st.1 h
theorem pi_zipQ {X : Cx} {e e2 : Expr} {ta : TA} {p pos tpos : Pos} {elts : List Expr} {kk : Nat} (hg : Gl X "zip") (hm : X.mg "zip" = none) (ha : PA X [e, e2] ta)
    (hs : starEach [e, e2] X.env = (false, eval e X.env) :: starEach [e2] X.env := by rfl) (hpl : (backTo pos (starEach [e2] X.env)).any (·.1) = false := by rfl) :
    PIQ X (.Tuple elts kk tpos) (.Call (.Name "zip" p) [e, e2] [] pos) (L2.iZip X.K ta) := by
  refine ⟨fun pins s σ H R I h => ?_⟩
  refine Call_ (ld_blt I hg hm PyProof.Rows.boot_zip (PyProof.Rows.callWith_type1 (thn (ha.run pos pins s σ H _ I h) fun us s1 ⟨vs, H1, I1, r1, q1⟩ => ?_) hs hpl))
  obtain ⟨a, b, xs, ys, ex, hqx, hqy, q⟩ := q1
  subst ex
  cases r1 with
  | cons r rr =>
    cases rr with
    | cons r' rr =>
      cases rr
      cases r
      cases r'
      obtain ⟨its, rv, p1, _⟩ := I1.list hqx
      obtain ⟨its2, rv2, p2, _⟩ := I1.list hqy
      have la : a < s1.heap.objs.size := p1.lt
      have lb : b < s1.heap.objs.size := p2.lt
      refine call_zip_2 p1.isList p2.isList fun h' hz hTI hTO h1 h2 hsz hk => wpAny_pyIter_zip hz ?_
      have I2 : Inv X pins σ H1 { s1 with heap := h' } := I1.kept (t' := s1.toks) hk
      refine ⟨s1.heap.objs.size + 4, [s1.heap.objs.size + 4, s1.heap.objs.size + 2, s1.heap.objs.size + 3, s1.heap.objs.size, s1.heap.objs.size + 1], _, _, H1, rfl, I2, turn_zipQ (PySem.W.ktu_apart s1.heap.objs.size a b la lb), ⟨hz, hTI, ⟨_, _, hTO⟩, h1, h2⟩, fun c hcm => ?_, q⟩
      have e' : c = s1.heap.objs.size + 4 ∨ c = s1.heap.objs.size + 2 ∨ c = s1.heap.objs.size + 3 ∨ c = s1.heap.objs.size ∨ c = s1.heap.objs.size + 1 := by simpa using hcm
      have hle : s1.heap.objs.size ≤ c := by
        rcases e' with z | z | z | z | z
        · rw [z]; exact Nat.le_add_right _ _
        · rw [z]; exact Nat.le_add_right _ _
        · rw [z]; exact Nat.le_add_right _ _
        · rw [z]; exact Nat.le_refl _
        · rw [z]; exact Nat.le_add_right _ _
      exact I1.fpOk hle (I1.hok.fresh hle)
theorem pg_tupQ {X : Cx} {pos : Pos} {es : List Expr} {k : Nat} {t : TGs} {n : Nat} (hc : HotI X) (h : PGs X es t)
    (hn : (assignEach es X.env).length = n := by rfl) (hst : (assignEach es X.env).findIdx? (·.1) = none := by rfl) : PG X (.Tuple es k pos) (gTup X.K n t) := by
  refine ⟨fun pins s σ H v u Q I r hw => ?_⟩
  obtain ⟨a, xs, e1, hq, hl, hw⟩ := hw
  subst e1
  cases r
  obtain ⟨its, rv, ht, hz⟩ := I.tuple hq
  refine assign_Tuple_hot (hc.choose_spec pins σ H s I) ht (by simp [hn, ← hl, rv.length]) hst fun h' hx => ?_
  have I1 : Inv X pins σ H { s with heap := h' } := I.kept (t' := s.toks) fun b o e => hx b o (Nat.ne_of_lt (Heap.lt_size e)) e
  exact h.run pins _ σ H xs _ Q I1 (by simpa using rv) hw
section
variable {X : Cx}
theorem lc_coreQ {pins : List (Addr × Obj)} {s : Shared} {σ : L2.St} {H : Hp} {Q : VK} {elt tg iter : Expr} {ifs : List Expr} {scope : Scope} {own : List (Str × Nat)} {pos pos' : Pos} {wi : TI} {g : TG} {tt : TT} {te : TE} {use : Option (Value → Sem Unit)} {Qf : Value → Shared → Prop}
    (hc : L2H.HotC X) (hN : X.N.Nodup) (I : Inv X pins σ H s) (hi : PIQ X tg iter wi) (ok : BlkOk X.N X.env.scope scope own)
    (hg : ∀ (s : Shared) (H : Hp) (C : Addr) (cl : List (Str × Addr)) (fp : List Addr), HotI (X.blk s H scope (compEnvC scope cl C X.env) fp) → PG (X.blk s H scope (compEnvC scope cl C X.env) fp) tg g) (ht : ∀ (s : Shared) (H : Hp) (C : Addr) (cl : List (Str × Addr)) (fp : List Addr), PTs (X.blk s H scope (compEnvC scope cl C X.env) fp) ifs tt)
    (he : ∀ (s : Shared) (H : Hp) (C : Addr) (cl : List (Str × Addr)) (fp : List Addr), PE (X.blk s H scope (compEnvC scope cl C X.env) fp) elt te) (hs : ∀ x, foldedSetIterable iter X.env x = pure x)
    (h : tLc wi g tt te (own.map (·.2)) σ H Q)
    (hRR : ∀ D C s' m H', Inv X pins σ H' s' → Q (.ref D) H' → s'.heap.Ns C m → FpOk X pins H' C → compPost (model X.prog X.w) X.A X.xe use Qf (.ref D) C (.ok .next) s') :
    wpAny (model X.prog X.w) X.A (comprehension (.ListComp elt [⟨tg, iter, ifs, 0⟩] scope pos) scope X.env pos' (newList []) false (eval iter X.env) use) Qf X.xe s := by
  have hfree : ∀ y ∈ scope.names, y.2 = .free → ∃ c, X.env.cells.lookup y.1 = some c := fun y hy e => by
    rcases ok.free y hy e with k | k
    · exact I.ok.has _ (.inl k)
    · exact I.ok.has _ (.inr k)
  refine wpAny_comprehension_free (use := use) rfl hs (closure_ok hfree) ok.kind (fun y hy e => by rw [ok.uniq y hy, e])
    (thn (hi.run pins s σ H _ I h) fun xv s1 hx => thn hx fun itv s2 h2 => ?_)
  obtain ⟨it, fp, tn, J, H2, e, I2, T, st2, f2, q⟩ := h2
  subst e
  refine wpAny_newObj_type (newEnv_comp ?_) (by show 0 ≤ sizeLine; decide)
  generalize hD : s2.heap.objs.size = D
  have hDn : H2 D = none := I2.hok.fresh (Nat.le_of_eq hD)
  obtain ⟨W, ⟨m0, w0⟩, turn⟩ := q D hDn
  -- the new list
  generalize hs3 : ({ s2 with heap := s2.heap.push { cls := .type "list", data := .seq ([] : List Value).toArray } } : Shared) = s3
  have I3 : Inv X pins σ (upd H2 D (.lst [])) s3 := by
    rw [← hs3]
    refine I2.laid (t' := s2.toks) (fun b o e => Heap.get?_push_of_some _ e) (Nat.le_of_eq hD) ⟨Nat.zero_le _, [], 0, .nil, ?_⟩
    rw [← hD]
    exact Heap.get?_push_size _ rfl
  have h3 : s3.heap = s2.heap.push { cls := .type "list", data := .seq ([] : List Value).toArray } := by rw [← hs3]
  have sz : ∀ b ∈ fp, b < s2.heap.objs.size := fun b hb => by
    obtain ⟨o, e, _⟩ := T.obj _ _ st2 b hb
    exact Heap.lt_size e
  have f3 : ∀ b ∈ fp, FpOk X pins (upd H2 D (.lst [])) b ∧ b < s3.heap.objs.size := fun b hb => by
    have hlt := sz b hb
    refine ⟨⟨?_, (f2 b hb).2⟩, by rw [h3, Heap.size_push]; exact Nat.lt_succ_of_lt hlt⟩
    rw [upd_ne (by rw [← hD]; exact Nat.ne_of_lt hlt)]
    exact (f2 b hb).1
  have st3 : tn 0 s3.heap := T.keep _ _ _ st2 fun b _ o e => by rw [h3]; exact Heap.get?_push_of_some _ e
  have I4 := block_start I3 ok hN f3
  obtain ⟨q0, hq0, hq1⟩ := id hc
  have hotB := hotI_blk (cenv := compEnvC scope (cellsFrom (s3.heap.objs.size + 1) scope.names (cloFrom X.env.cells scope.names [])) s3.heap.objs.size X.env) (scope := scope) I3 hq0 hq1 fun b hb => (f3 b hb).1
  have pg := hg s3 (upd H2 D (.lst [])) s3.heap.objs.size (cellsFrom (s3.heap.objs.size + 1) scope.names (cloFrom X.env.cells scope.names [])) fp hotB
  have pt := ht s3 (upd H2 D (.lst [])) s3.heap.objs.size (cellsFrom (s3.heap.objs.size + 1) scope.names (cloFrom X.env.cells scope.names [])) fp
  have pe := he s3 (upd H2 D (.lst [])) s3.heap.objs.size (cellsFrom (s3.heap.objs.size + 1) scope.names (cloFrom X.env.cells scope.names [])) fp
  show codeAny _ _ (.compStart (.ListComp elt [⟨tg, iter, ifs, 0⟩] scope pos) 0 (.ref it) (.ref D) (compEnvC scope (cellsFrom (s3.heap.objs.size + 1) scope.names (cloFrom X.env.cells scope.names [])) s3.heap.objs.size X.env)) (compPost (model X.prog X.w) X.A X.xe use Qf (.ref D) s3.heap.objs.size) { s3 with heap := pushCells (s3.heap.push { cls := .type "dict", data := .dict #[] }) scope.names }
  have nfp : ∀ b ∈ fp, (upd H2 D (.lst [])) b = none := fun b hb => (f3 b hb).1.1
  generalize hce : compEnvC scope (cellsFrom (s3.heap.objs.size + 1) scope.names (cloFrom X.env.cells scope.names [])) s3.heap.objs.size X.env = ce at I4 pg pt pe hotB ⊢
  have cL : ce.locals = s3.heap.objs.size := by subst hce; rfl
  generalize hH3 : upd H2 D (.lst []) = H3 at I3 I4 pg pt pe w0 nfp f3 hotB
  generalize hs4 : ({ s3 with heap := pushCells (s3.heap.push { cls := .type "dict", data := .dict #[] }) scope.names } : Shared) = s4 at I4 ⊢
  have st4 : tn 0 s4.heap := T.keep _ _ _ st3 fun b _ o e => by rw [← hs4]; exact pushCells_keeps _ _ _ _ (Heap.get?_push_of_some _ e)
  have stat : ∀ {σ' : L2.St} {H' : Hp} {s' : Shared}, Inv (X.blk s3 H3 scope ce fp) [] σ' H' s' → (∀ b ∈ fp, H' b = none) → ∀ b ∈ fp, FpOk (X.blk s3 H3 scope ce fp) [] H' b := fun {σ' H' s'} I' hn b hb =>
    ⟨hn b hb, (I'.ok.exf b hb).1, I'.ok.exfs b hb, .inl hb, fun x c e => (I'.ok.exf b hb).2 x c e, fun p hp => absurd (show p ∈ ([] : List (Addr × Obj)) ++ [] from hp) (by simp)⟩
  have loop : codeAny (model X.prog X.w) X.A (.compLoop (.ListComp elt [⟨tg, iter, ifs, 0⟩] scope pos) 0 (.ref it) (.ref D) ce) (compPost (model X.prog X.w) X.A X.xe use Qf (.ref D) s3.heap.objs.size) s4 := by
    refine compLoop_any (fun n s' => ∃ i H', Inv (X.blk s3 H3 scope ce fp) [] (wipe σ (own.map (·.2))) H' s' ∧ tn i s'.heap ∧ (∀ b ∈ fp, H' b = none) ∧ W i n H') ?_ m0 ⟨0, H3, I4, st4, nfp, w0⟩
    rintro n s5 ⟨i, H5, I5, st5, n5, w5⟩
    rcases turn i n H5 w5 with ⟨stop, qq⟩ | ⟨go, Nx, hNx, step⟩
    · have td := T.done (X.blk s3 H3 scope ce fp) rfl rfl rfl hotB i [] s5 _ H5 (fun _ _ => False) I5 (stat I5 n5) st5 stop
      refine thnF td fun r s6 ⟨hr, I6⟩ => ?_
      subst hr
      -- back in the def's context
      have I7 : Inv X pins σ H5 s6 := I3.call' (ch := fp) I6.os I6.base I6.hok I6.bare fun b hb => ⟨(f3 b hb).1.2.2.2.1, (f3 b hb).1.2.1, (f3 b hb).1.2.2.2.2.1, (f3 b hb).1.2.2.2.2.2⟩
      have nC : H5 s3.heap.objs.size = none := by
        have z : H5 ce.locals = none := I6.free
        rw [cL] at z
        exact z
      obtain ⟨m, hn, _⟩ := I6.loc
      have hn : s6.heap.Ns ce.locals m := hn
      rw [cL] at hn
      exact hRR D s3.heap.objs.size s6 m H5 I7 qq hn (I3.fpOk (Nat.le_refl _) nC)
    · have ti := T.item (X.blk s3 H3 scope ce fp) rfl rfl rfl hotB i [] s5 _ H5 (fun _ _ => False) I5 (stat I5 n5) st5 go
      refine thnF ti fun r s6 ⟨u, hr, h6⟩ => ?_
      subst hr
      refine thnF h6 fun _ s7 ⟨x, H7, I7, r7, y7, st7, n7⟩ => ?_
      have I7' := I7.pinned (stat I7 n7) (T.obj _ _ st7)
      refine thnF (pg.run _ s7 _ H7 x u _ I7' r7 (step x H7 y7)) fun _ s8 ⟨σ8, H8, I8, hw8, q8⟩ => ?_
      refine thnF (pt.run _ s8 σ8 H8 _ I8 q8) fun b s9 ⟨H9, I9, q9⟩ => ?_
      -- the turn's end
      have fin : ∀ {s' : Shared} {H' : Hp}, Inv (X.blk s3 H3 scope ce fp) ([] ++ pinsAt fp s7.heap) σ8 H' s' → Nx H' → ∃ m, m < n ∧ ∃ i H', Inv (X.blk s3 H3 scope ce fp) [] (wipe σ (own.map (·.2))) H' s' ∧ tn i s'.heap ∧ (∀ b ∈ fp, H' b = none) ∧ W i m H' := fun {s' H'} I' nx => by
        obtain ⟨m', hm, w'⟩ := hNx H' nx
        have pin' : ∀ b ∈ fp, ∀ o, s7.heap.get? b = some o → s'.heap.get? b = some o ∧ H' b = none := fun b hb o e =>
          let z := I'.pin (b, o) (List.mem_append_right _ (List.mem_append_right _ (mem_pinsAt hb e)))
          ⟨z.1, z.2.1⟩
        have hl : (wipe σ (own.map (·.2))).length = σ8.length := by rw [← hw8, wipe_length]
        refine ⟨m', hm, i + 1, H', (I'.unpinned (pins := [])).weak hl (fun j v e => ?_), T.keep _ _ _ st7 fun b hb o e => (pin' b hb o e).1, fun b hb => ?_, w'⟩
        · rw [← hw8] at e
          exact (wipe_some e).1
        · obtain ⟨o, e, _⟩ := T.obj _ _ st7 b hb
          exact (pin' b hb o e).2
      cases b with
      | false =>
        simp only [Bool.false_eq_true, if_false] at q9 ⊢
        exact fin I9 q9
      | true =>
        simp only [if_true] at q9 ⊢
        refine thnF (pe.run _ s9 σ8 H9 _ I9 q9) fun z s10 ⟨yv, H10, I10, r10, acc, hD10, hz10, nx⟩ => ?_
        exact app_ok (X := X.blk s3 H3 scope ce fp) I10 hD10 hz10 r10 fun s11 I11 => fin I11 nx
  exact codeAny_compStart_list loop (T.self X.A 0 _ _ _ st4 loop)
theorem pe_lcQ {elt tg iter : Expr} {ifs : List Expr} {scope : Scope} {own : List (Str × Nat)} {pos : Pos} {wi : TI} {g : TG} {tt : TT} {te : TE} (hc : L2H.HotC X) (hN : X.N.Nodup) (hi : PIQ X tg iter wi) (ok : BlkOk X.N X.env.scope scope own)
    (hg : ∀ (s : Shared) (H : Hp) (C : Addr) (cl : List (Str × Addr)) (fp : List Addr), HotI (X.blk s H scope (compEnvC scope cl C X.env) fp) → PG (X.blk s H scope (compEnvC scope cl C X.env) fp) tg g) (ht : ∀ (s : Shared) (H : Hp) (C : Addr) (cl : List (Str × Addr)) (fp : List Addr), PTs (X.blk s H scope (compEnvC scope cl C X.env) fp) ifs tt)
    (he : ∀ (s : Shared) (H : Hp) (C : Addr) (cl : List (Str × Addr)) (fp : List Addr), PE (X.blk s H scope (compEnvC scope cl C X.env) fp) elt te) (hs : ∀ x, foldedSetIterable iter X.env x = pure x := by intro _; rfl) :
    PE X (.ListComp elt [⟨tg, iter, ifs, 0⟩] scope pos) (tLc wi g tt te (own.map (·.2))) := by
  refine ⟨fun pins s σ H Q I h => ?_⟩
  rw [eval_ListComp]
  refine lc_coreQ hc hN I hi ok hg ht he hs h fun D C s' m H' I' q hn f => ⟨m, hn, fun h'' sb => ?_⟩
  obtain ⟨f0, f1, f2, f3, f4, f5⟩ := f
  exact ⟨.ref D, H', I'.turned (t' := s'.toks) (fun b o hb e => (sb.2 b hb).trans e) f0 f1 f3 f4 f5, rfl, q⟩
end
end Fw
namespace Fw
open PySem PySem.Spec PyProof.Rows L2 L2H
structure FnHP (P : Program) (w : World) (K : PySem.W.Frag) (mg : Str → Option Value) (base : Heap) (CX : CXT) (k : Nat) (f : Addr) (fd : FuncData) (ps : List Str) (sp : Addr × Obj → Sp) : Prop where
  len : ∀ p vs H Q E, sp p vs H Q E → vs.length = ps.length
  run : ∀ (A : Around) (outer : List Env) (s : Shared) (H : Hp) (args : Args) (us : List Value) (vs : List V) (Q : VK) (E : XK) (p : Addr × Obj), RoomH k A → Hot1 A p → PinOk outer H s p → Env0 P w K mg base A outer s H → BindsTo s fd args (ps.zip us) → Vals vs us → sp p vs H Q E →
    codeAny (model P w) A (.call (.ref f) args) (CR CX outer P w H s Q E) s
theorem fn_ofHP {CX : CXT} {P : Program} {w : World} {K : PySem.W.Frag} {mg : Str → Option Value} {base : Heap} {k : Nat} {f : Addr} {name qual : Str} {params : Arguments} {body : List Stmt} {scope : Scope} {dV kV doc pm cdv ct oc : Value} {an od : Option Addr}
    {osl : Array (Option Value)} {N ps : List Str} {sp : Addr × Obj → Sp} (lk : K.lookup f = some ⟨oc, od, .func (PySem.W.fnOf name qual params body scope dV kV doc pm an cdv ct), osl⟩) (hcd : PySem.W.codeIn K cdv qual = true) (S : FnScope N ps scope)
    (len : ∀ p vs H Q E, sp p vs H Q E → vs.length = ps.length)
    (hbody : ∀ (A : Around) (outer : List Env) (s : Shared) (H : Hp) (vs : List V) (Q : VK) (E : XK) (p : Addr × Obj), Hot1 A p → RoomH k (A.deeper (envOfC qual scope s.heap.objs.size f cdv)) → sp p vs H Q E →
      ∃ t, PSs (cxH CX P w K mg base N qual scope f cdv A outer s H E p) body t ∧ t { nx := fun _ H' => Q .non H', rt := Q } (L2.start N vs) H) :
    FnHP P w K mg base CX (k + 1) f (PySem.W.fnOf name qual params body scope dV kV doc pm an cdv ct) ps sp := by
  refine ⟨len, fun A outer s H args us vs Q E p hr hot hpin e0 hb r hsp => ?_⟩
  have hl := len _ _ _ _ _ hsp
  have KX : K.In s.heap := e0.mod.kin.keeps fun b o e => (e0.bs b o e).1
  have lim : s.heap.NoLimit := e0.mod.nolimit.keeps fun b o e => (e0.bs b o e).1
  have hkind : ∀ y ∈ ps.zip us, scope.names.lookup y.1 = some .local ∨ (scope.names.lookup y.1 = some .cell ∧ ((cellsFrom (s.heap.objs.size + 1) scope.names []).lookup y.1).isSome = true) := fun ⟨n, v⟩ hy => by
    rcases S.par n (List.of_mem_zip hy).1 with q | q
    · exact .inl q
    · exact .inr ⟨q, PySem.W.cellsFrom_some _ _ _ (.inl q)⟩
  refine codeAny_call_function hr.depth (KX _ _ lk) rfl S.co S.gen rfl (PySem.W.codeRec_of KX hcd) (hb _ _ _ _ ?_)
  refine wpAny_newFunctionEnv_cells S.kind hkind fun env he s1 x => ?_
  subst he
  refine ⟨lim.keeps x.toInCall.keep, codeAny_func ?_⟩
  obtain ⟨t, ht, hq⟩ := hbody A outer s H vs Q E p hot (hr.deeper _) hsp
  have I : Inv (cxH CX P w K mg base N qual scope f cdv A outer s H E p) [] (L2.start N vs) H s1 := inv_startH S hpin e0 hl r x
  refine wpAny_mono (ht.run [] s1 (L2.start N vs) H _ I hq) (fun fl s' hs => ?_) fun e s' hs => hs
  have fin : ∀ {σ' : L2.St} {H' : Hp} {v : V} {u : Value}, Inv (cxH CX P w K mg base N qual scope f cdv A outer s H E p) [] σ' H' s' → RelV v u → Q v H' → CE outer P w H s Q u s' :=
    fun {σ' H' v u} J rv q => ⟨v, H', J.os, J.bare, J.base, J.hok, rv, q⟩
  cases fl with
  | ret u =>
    obtain ⟨v, σ', H', J, rv, q⟩ := hs
    exact fin J rv q
  | next =>
    obtain ⟨σ', H', J, q⟩ := hs
    exact fin (v := V.non) (u := Value.none) J rfl q
  | brk =>
    obtain ⟨_, _, _, q⟩ := hs
    exact False.elim q
  | cont =>
    obtain ⟨_, _, _, q⟩ := hs
    exact False.elim q

section
variable {X : Cx} {CX : CXT} {k : Nat} {f C : Addr} {fd : FuncData} {ps : List Str} {sp : Addr × Obj → Sp} {E : L2.St → XK} {x m : Str} {q pos apos : Pos} {e o : Expr} {es : List Expr} {ta : TE} {t : TA}
theorem run_fnHP {p : Addr × Obj} {pins : List (Addr × Obj)} {σ : L2.St} {H : Hp} {s : Shared} {Q : VK} {us : List Value} {vs : List V} (F : FnHP X.prog X.w X.K X.mg X.base CX k f fd ps sp) (hr : RoomH k X.A) (hot : Hot1 X.A p) (hp : p ∈ X.pn) (hb : Binds X.K fd ps []) (hx : PassesAt CX X σ (E σ))
    (I : Inv X pins σ H s) (r : Vals vs us) (h : sp p vs H Q (E σ)) : wpAny (model X.prog X.w) X.A (call (.ref f) us) (EP X pins σ Q) X.xe s := by
  have hl : us.length = ps.length := by rw [← r.length]; exact F.len _ _ _ _ _ h
  have b := hb s us I.kIn (by rw [List.append_nil]; exact hl)
  rw [List.append_nil] at b
  have P1 := I.pin p (List.mem_append_left _ hp)
  have hpin : PinOk X.stack H s p := ⟨P1.1, P1.2.1, fun hm => (List.mem_cons.mp (I.stkSub p.1 hm)).elim P1.2.2.1 P1.2.2.2.1, P1.2.2.2.2⟩
  refine wpAny_call (codeAny_mono (F.run X.A X.stack s H ⟨us, []⟩ us vs Q (E σ) p hr hot hpin I.env0 b r h) fun r s' hq => ?_)
  cases r with
  | error e => exact hx pins H s e s' I hq
  | ok fl =>
    cases fl with
    | ret u => exact I.after hq
    | next => exact False.elim hq
    | brk => exact False.elim hq
    | cont => exact False.elim hq
theorem pe_callHP {p : Addr × Obj} (F : FnHP X.prog X.w X.K X.mg X.base CX k f fd ps sp) (hr : RoomH k X.A) (hot : Hot1 X.A p) (hp : p ∈ X.pn) (hg : Gl X x) (hm : X.mg x = some (.ref f)) (hk : PySem.W.keepIn X.K (.ref f) = true) (hb : Binds X.K fd ps []) (hx : ∀ σ, PassesAt CX X σ (E σ))
    (ha : PA X (e :: es) t) (hdb : (x == ("__debug__" : Str)) = false := by decide) (he : starEach (e :: es) X.env = (false, eval e X.env) :: starEach es X.env := by rfl) (hpl : (backTo pos (starEach es X.env)).any (·.1) = false := by rfl) :
    PE X (.Call (.Name x q) (e :: es) [] pos) (tCallS (sp p) E t) := by
  refine ⟨fun pins s σ H Q I h => ?_⟩
  refine wpAny_Call_Name_kw (ld_glob I hg hm ?_ hdb)
  refine PySem.W.callWith_K (h₀ := X.base) I.ok.mod.kin hk (thn (ha.run pos pins s σ H _ I h) fun us s1 ⟨vs, H1, I1, r, q⟩ => ⟨I1.kIn, ?_⟩) he hpl
  exact run_fnHP F hr hot hp hb (hx σ) I1 r q
end
theorem call_isEg {X : Cx} {a D : Addr} {oe : Obj} (C : ExcC X.K D) (hz : Zc (.ref D) none oe) (hf : ∃ vs, oe.data = .fields vs) (hmem : (a, oe) ∈ X.pn) : CallR X (.builtin "isinstance") (rIsE X.K D a) := by
  intro pins s σ H xs us Q I r h
  obtain ⟨c, cv, b, rfl, hcv, e, q⟩ := h
  cases r with
  | cons rx rr =>
    cases rr with
    | cons rt rr =>
      cases rr
      cases rx
      have ec := hcv _ rt
      subst ec
      obtain ⟨hget, _⟩ := I.pin (a, oe) (List.mem_append.mpr (.inl hmem))
      obtain ⟨vs, hv⟩ := hf
      have J : PySem.W.InstAt s.heap a oe D none := by
        obtain ⟨oc, od, oda, osl⟩ := oe
        obtain ⟨h1, h2⟩ := hz
        dsimp only at h1 h2 hv
        subst h1 h2 hv
        exact ⟨hget, rfl, rfl, trivial⟩
      exact PySem.W.kia_one (PySem.W.handS_kitx_exc C.hg C.hk C.hs C.hd C.ha C.hn C.ht C.hm) I.kIn J e (fun z => nomatch z) fun tk => ⟨.bl b, H, I.kept (t' := tk) fun _ _ z => z, rfl, q⟩
end Fw
set_option maxHeartbeats 2000000
/-! lambdas handed to a def: exceptions whose context is None (turned from HandS.Lambda to L2N) -/
namespace Fw
open PySem PySem.Spec PyProof.Rows L2 LamX
/-- the context of the lambda's body, entered at s from the frames outer -/
def lamCxN (X : Cx) (A : Around) (outer : List Env) (s : Shared) (H : Hp) (E : XK) (scope : Scope) (f c' : Addr) : Cx where
  prog := X.prog
  w := X.w
  K := X.K
  mg := X.mg
  base := X.base
  A := A.deeper (lamEnv X scope s.heap.objs.size f c')
  N := X.N
  s_0 := s
  H_0 := H
  env := lamEnv X scope s.heap.objs.size f c'
  outer := outer
  stack := lamEnv X scope s.heap.objs.size f c' :: outer
  ex := []
  fn := fun _ => false
  calm := true
  pn := []
  xe := fun e s' => wpAny (model X.prog X.w) (A.deeper (lamEnv X scope s.heap.objs.size f c')) (leaving (lamEnv X scope s.heap.objs.size f c') e) (fun _ s'' => L2N.CX X.prog X.w outer H s E e s'') (fun e' s'' => L2N.CX X.prog X.w outer H s E e' s'') s'
section
variable {X : Cx} {pins : List (Addr × Obj)} {σ : L2.St} {H HZ : Hp} {s s1 : Shared}
theorem lam_startN {A : Around} {outer : List Env} {E : XK} {scope : Scope} {f c' : Addr} {h₁ : Heap} {tk : Nat} (I : Inv X pins σ H s) (L : LamS X.env.scope scope) (e0 : Env0 X.prog X.w X.K X.mg X.base A outer s1 HZ) (hd : A.handled = none)
    (un : Un (frs X.stack) [] H HZ s.heap s1.heap) (hns : h₁.Ns s1.heap.objs.size fun y => ([] : List (Str × Value)).reverse.lookup y) (kp : ∀ b o, s1.heap.get? b = some o → h₁.get? b = some o) :
    Inv (lamCxN X A outer s1 HZ E scope f c') [] σ HZ { s1 with heap := h₁, toks := tk } := by
  have hfree := L.has I.ok
  have cm : ∀ {y c}, (cloFrom X.env.cells scope.names []).lookup y = some c → X.env.cells.lookup y = some c := fun {y c} e => by
    rcases cloFrom_mem (PySem.mem_of_lookup e) with hm | ⟨h1, h2⟩
    · cases hm
    · obtain ⟨c1, hc⟩ := hfree _ h1 rfl
      have hc : X.env.cells.lookup y = some c1 := hc
      have e2 : c = c1 := by
        rw [h2, hc] <;> rfl
      rw [e2]
      exact hc
  have look : ∀ {y}, scope.names.lookup y = some .free → ∃ c, (cloFrom X.env.cells scope.names []).lookup y = some c := fun {y} hl => by
    have hy : (y, NameKind.free) ∈ scope.names := PySem.mem_of_lookup hl
    exact mem_lookup (cloFrom_has (cells := X.env.cells) (acc := []) hy)
  have cellK : ∀ {c : Addr} {v : Option Value}, H c = none → s.heap.IsCell c v → h₁.IsCell c v := fun {c v} n ⟨o, ho, hd⟩ => by
    obtain ⟨sl, q⟩ := un.any ho n (by simp)
    exact ⟨_, kp _ _ q, hd⟩
  have noA : ∀ b : Addr, b ∉ (lamCxN X A outer s1 HZ E scope f c').ex := fun b z => absurd (show b ∈ ([] : List Addr) from z) (by simp)
  refine ⟨⟨e0.mod, L.kind, rfl, rfl, Nat.le_refl _, fun y z c e1 e2 => I.ok.inj y z c (cm e1) (cm e2), fun y hy => ?_, fun y c z _ => ?_, fun _ => hd, Around.frames_deeper e0.frames, .inr ⟨rfl, rfl⟩, fun b z => absurd z (noA b), e0.bs, e0.bsz, fun b _ _ => noA b,
      fun b z => absurd z (noA b), e0.funs, e0.frf⟩,
    rfl, e0.bare, Un.kept kp, ⟨_, hns, fun i y v e1 e2 e3 => ?_⟩, fun y c e => ?_, e0.hok.fresh (Nat.le_refl _), fun y c e => ?_, fun q hq => absurd (show q ∈ ([] : List (Addr × Obj)) ++ [] from hq) (by simp), e0.hok.kept kp, I.len⟩
  · have hy : scope.names.lookup y = some .cell ∨ scope.names.lookup y = some .free := hy
    rcases hy with hy | hy
    · exact absurd rfl (L.own _ (PySem.mem_of_lookup hy)).2
    · exact look hy
  · have z : false = true := z
    cases z
  · have e3 : Vis scope y := e3
    rcases e3 with k | k | k
    · exact absurd rfl (L.own _ (PySem.mem_of_lookup k)).1
    · exact absurd rfl (L.own _ (PySem.mem_of_lookup k)).2
    · obtain ⟨m, hn, hl⟩ := I.loc
      have hvis : Vis X.env.scope y := (L.free _ (PySem.mem_of_lookup k) rfl).elim (fun k => .inr (.inl k)) (fun k => .inr (.inr k))
      obtain ⟨w', r, q⟩ := hl i y v e1 e2 hvis
      obtain ⟨c2, h2⟩ := look k
      refine ⟨w', r, .inr ⟨.inr k, c2, h2, ?_⟩⟩
      have c1 := cm h2
      rcases q with ⟨k', _⟩ | ⟨_, c3, e', z⟩
      · have k' : X.env.scope.names.lookup y = some .local := k'
        rcases L.free _ (PySem.mem_of_lookup k) rfl with k2 | k2 <;> rw [show X.env.scope.names.lookup y = _ from k2] at k' <;> cases k'
      · rw [c1] at e'
        cases e'
        exact cellK (I.freeC y _ c1) z
  · obtain ⟨w', z⟩ := I.cell y c (cm e)
    exact ⟨w', cellK (I.freeC y c (cm e)) z⟩
  · obtain ⟨v, o, ho, hd⟩ := I.cell y c (cm e)
    exact un.free c o ho (I.freeC y c (cm e)) (by simp)
/-- x(), in the def that got the lambda: Z is that def's context, entered at s -/
theorem pe_actN {CXg : CXT} {Eg : XK} {Ng : List Str} {qg : Str} {sg : Scope} {g f c' : Addr} {cdg pm ctv : Value} {params : Arguments} {body : Expr} {scope : Scope} {k i : Nat} {a : Str} {pn : List (Addr × Obj)} {xe : Value → Shared → Prop} {W : WX} {E : XK} {tb : TE} {p1 p2 : Pos}
    (I : Inv X pins σ H s) (L : LamS X.env.scope scope) (hf : s.heap.get? f = some (PySem.W.kla_obj "<lambda>" (X.env.qual ++ "<lambda>") params body scope (cloFrom X.env.cells scope.names []) pm c' ctv)) (hfn : H f = none) (hfr : f ∉ frs X.stack)
    (hbind : bindArgs (PySem.W.kla_fn "<lambda>" (X.env.qual ++ "<lambda>") params body scope (cloFrom X.env.cells scope.names []) pm (.ref c') ctv) ⟨[], []⟩ = pure [])
    (tk : L2N.Takes ((cxOf CXg X.prog X.w X.K X.mg X.base Ng qg sg g cdg X.A X.stack s H Eg).tr pn xe) W) (hW : ∀ cls d σ' H', E cls d H' → W cls d σ' H') (hr : Room (k + 1) (X.A.deeper (envOfC qg sg s.heap.objs.size g cdg)))
    (hbody : ∀ (A : Around) (outer : List Env) (s : Shared) (H : Hp), Room k (A.deeper (lamEnv X scope s.heap.objs.size f c')) → PE (lamCxN X A outer s H E scope f c') body tb)
    (hN : Ng[i]? = some a) (hv : Vis sg a) (hd : (a == ("__debug__" : Str)) = false := by decide) (hcd : (a == ("__classdict__" : Str)) = false := by decide) :
    PE ((cxOf CXg X.prog X.w X.K X.mg X.base Ng qg sg g cdg X.A X.stack s H Eg).tr pn xe) (.Call (.Name a p1) [] [] p2)
      (fun σZ HZ Q => σZ[i]? = some (some (.ref f)) ∧ HZ c' = some (CodeO c' (X.env.qual ++ "<lambda>")) ∧ tb σ HZ Q) := by
  refine ⟨fun pinsZ sZ σZ HZ Q IZ h => ?_⟩
  obtain ⟨hs, hc, ht⟩ := h
  refine wpAny_Call_Name_kw (thn ((pe_var (pos := p1) (i := i) hN hv hd hcd).run pinsZ sZ σZ HZ (fun v H1 => v = .ref f ∧ H1 = HZ) IZ ⟨.ref f, hs, rfl, rfl⟩) fun u s1 ⟨v, H1, I1, r1, q1⟩ => ?_)
  obtain ⟨ev, eH⟩ := q1
  subst ev
  rw [eH] at I1
  obtain rfl : u = Value.ref f := r1
  have of1 : s1.heap.get? f = some (PySem.W.kla_obj "<lambda>" (X.env.qual ++ "<lambda>") params body scope (cloFrom X.env.cells scope.names []) pm c' ctv) := I1.base.keep f _ hf hfn hfr (fun z => nomatch (show f ∈ ([] : List Addr) from z))
  refine PySem.W.callWith_F0 ⟨_, _, _, _, of1⟩ ?_
  have un : Un (frs X.stack) [] H HZ s.heap s1.heap := I1.base
  obtain ⟨⟨oc, vs, t, hoc, hdc, hvc⟩, _, _⟩ := I1.hok c' _ hc
  have rc : codeAny (model X.prog X.w) (X.A.deeper (envOfC qg sg s.heap.objs.size g cdg)) (.call (.ref f) ⟨[], []⟩) (CR (L2N.CX X.prog X.w) (envOfC qg sg s.heap.objs.size g cdg :: X.stack) X.prog X.w HZ s1 Q E) s1 := by
    refine PySem.W.kla_callFunE hr.depth of1 rfl L.co L.gen rfl ⟨c', oc, vs, t, rfl, hoc, hdc, hvc⟩ ?_
    rw [hbind]
    refine wpAny_pure (wpAny_newFunctionEnv (fun y hy => (L.own y hy).2) (fun y hy => absurd hy (by simp)) (fun h₁ hns hsb => ⟨I1.nolimit.fresh _ hsb, ?_⟩) L.kind)
    show codeAny _ _ (.expr body (lamEnv X scope s1.heap.objs.size f c')) _ _
    have kp : ∀ b o, s1.heap.get? b = some o → h₁.get? b = some o := fun b o e => hsb.extBut b o (Nat.ne_of_lt (Heap.lt_size e)) (Heap.get?_push_of_some _ e)
    have J : Inv (lamCxN X (X.A.deeper (envOfC qg sg s.heap.objs.size g cdg)) (envOfC qg sg s.heap.objs.size g cdg :: X.stack) s1 HZ E scope f c') [] σ HZ { s1 with heap := h₁, toks := s1.toks + ([] : List (Str × Value)).length } :=
      lam_startN I L I1.env0 hr.hd un hns kp
    refine PySem.W.kla_codeExpr (wpAny_mono ((hbody _ _ s1 HZ (hr.deeper _)).run [] _ _ HZ Q J ht) (fun v s' hq => ?_) fun e s' hq => hq)
    obtain ⟨w', H', J', rv, q⟩ := hq
    exact ⟨w', H', J'.os, J'.bare, J'.base, J'.hok, rv, q⟩
  have hx : Passes (L2N.CX X.prog X.w) ((cxOf CXg X.prog X.w X.K X.mg X.base Ng qg sg g cdg X.A X.stack s H Eg).tr pn xe) E := L2N.passes_call tk hW
  refine wpAny_call (codeAny_mono rc fun r s' hq => ?_)
  cases r with
  | error e => exact hx pinsZ σZ HZ s1 e s' I1 hq
  | ok fl =>
    cases fl with
    | ret u => exact I1.after hq
    | next => exact False.elim hq
    | brk => exact False.elim hq
    | cont => exact False.elim hq
end
/-- the def that calls what it got: a calls it; TT: what it makes of the lambda's reading -/
def GivesToN (k : Nat) (X : Cx) (Ng : List Str) (x : Str) (sg : Scope) (g : Addr) (cdg : Value) (bg : List Stmt) (a : Str) (q : Str) (TT : (XK → Hp → VK → Prop) → Hp → VK → Prop) : Prop :=
  ∀ (f c' : Addr) (s : Shared) (H : Hp) (Q : VK) (tl : XK → Hp → VK → Prop), Room (k + 1) (X.A.deeper (envOfC x sg s.heap.objs.size g cdg)) →
    (∀ (W : WX) (pn : List (Addr × Obj)) (xe : Value → Shared → Prop) (E : XK) (p1 p2 : Pos), L2N.Takes ((cxOf C8.CX0 X.prog X.w X.K X.mg X.base Ng x sg g cdg X.A X.stack s H C8.E0).tr pn xe) W → (∀ cls d σ' H', E cls d H' → W cls d σ' H') →
      PE ((cxOf C8.CX0 X.prog X.w X.K X.mg X.base Ng x sg g cdg X.A X.stack s H C8.E0).tr pn xe) (.Call (.Name a p1) [] [] p2) (fun σZ HZ Q => σZ[0]? = some (some (.ref f)) ∧ HZ c' = some (CodeO c' q) ∧ tl E HZ Q)) →
    H c' = some (CodeO c' q) → TT tl H Q →
    ∃ t, PSs (cxOf C8.CX0 X.prog X.w X.K X.mg X.base Ng x sg g cdg X.A X.stack s H C8.E0).nox bg t ∧ t { nx := fun _ H' => Q .non H', rt := Q } (L2.start Ng [.ref f]) H
def tLamN (T : List (Addr × Str)) (TT : (XK → Hp → VK → Prop) → Hp → VK → Prop) (t : XK → TE) : TE := fun σ H Q => Tabs T H ∧ ∀ H1, ExtN H H1 → Tabs T H1 → TT (fun E H' Q' => t E σ H' Q') H1 Q
section
variable {X : Cx}
/-- x(lambda: body) -/
theorem pe_lamcallN {T : List (Addr × Str)} {TT : (XK → Hp → VK → Prop) → Hp → VK → Prop} {x a : Str} {g c P : Addr} {k : Nat} {pg : Arguments} {bg : List Stmt} {sg : Scope} {dV kV doc pm cdv ct oc : Value} {an od : Option Addr} {osl : Array (Option Value)} {Ng : List Str}
    {params : Arguments} {body : Expr} {scope : Scope} {t : XK → TE} {p lpos pos : Pos} (hg : Gl X x) (hm : X.mg x = some (.ref g)) (hk : PySem.W.keepIn X.K (.ref g) = true)
    (lk : X.K.lookup g = some ⟨oc, od, .func (PySem.W.fnOf x x pg bg sg dV kV doc pm an cdv ct), osl⟩) (hcg : PySem.W.codeIn X.K cdv x = true) (hb : L2.Binds X.K (PySem.W.fnOf x x pg bg sg dV kV doc pm an cdv ct) [a] []) (Sg : FnScope Ng [a] sg) (hNg : Ng[0]? = some a) (hva : Vis sg a)
    (hG : GivesToN k X Ng x sg g cdv bg a (X.env.qual ++ "<lambda>") TT)
    (TB : TabB X.base X.mg c P) (hcode : X.env.code = .ref c) (hmT : (P, X.env.qual ++ "<lambda>") ∈ T) (hu : ∀ p ∈ T, p.1 = P → p.2 = X.env.qual ++ "<lambda>") (hr : Room (k + 2) X.A) (L : LamS X.env.scope scope) (hdef : defaultsOf params X.env = ([], []))
    (hbind : ∀ (q : Str) (cl : List (Str × Addr)) (pm cv ctv : Value), bindArgs (PySem.W.kla_fn "<lambda>" q params body scope cl pm cv ctv) ⟨[], []⟩ = pure [])
    (hbody : ∀ (A : Around) (outer : List Env) (s : Shared) (H : Hp) (E : XK) (f c' : Addr), Room k (A.deeper (lamEnv X scope s.heap.objs.size f c')) → PE (lamCxN X A outer s H E scope f c') body (t E))
    (hdb : (x == ("__debug__" : Str)) = false := by decide) (hd : (a == ("__debug__" : Str)) = false := by decide) (hcd : (a == ("__classdict__" : Str)) = false := by decide) :
    PE X (.Call (.Name x p) [.Lambda params body scope lpos] [] pos) (tLamN T TT t) := by
  refine ⟨fun pins s σ H Q I h => ?_⟩
  obtain ⟨hT, h⟩ := h
  refine wpAny_Call_Name_kw (ld_glob I hg hm ?_ hdb)
  refine PySem.W.callWith_K (h₀ := X.base) I.ok.mod.kin hk ?_ (by rfl) (by rfl)
  show wpAny _ _ (spliced ((false, eval (.Lambda params body scope lpos) X.env) :: backTo pos (starEach [] X.env))) _ _ s
  refine Calls.spliced_cons (lam_make2 I TB hcode hmT hu hT hdef (L.has I.ok) fun f c' pm' ctv H1 s' I1 eN T1 hf hfn hfr hco => ?_)
  refine Calls.spliced_nil ⟨I1.kIn, ?_⟩
  have rc : codeAny (model X.prog X.w) X.A (.call (.ref g) ⟨[.ref f], []⟩) (CR C8.CX0 X.stack X.prog X.w H1 s' Q C8.E0) s' := by
    refine run_ofS (N := Ng) (ps := [a]) (us := [.ref f]) (vs := [.ref f]) lk hcg Sg hr I1.env0 (hb s' [.ref f] I1.kIn rfl) (.cons rfl .nil) rfl fun hr' => ?_
    obtain ⟨t', ht', hq'⟩ := hG f c' s' H1 Q (fun E H' Q' => t E σ H' Q') hr' (fun W pn xe E p1 p2 tk hW => pe_actN (i := 0) I1 L hf hfn hfr (hbind _ _ _ _ _) tk hW hr' (fun A outer s H hr2 => hbody A outer s H E f c' hr2) hNg hva hd hcd) hco (h H1 eN T1)
    exact ⟨t', ht'.nox, hq'⟩
  refine wpAny_call (codeAny_mono rc fun r s2 hq => ?_)
  cases r with
  | error e => exact (show False from hq).elim
  | ok fl =>
    cases fl with
    | ret u => exact I1.after hq
    | next => exact False.elim hq
    | brk => exact False.elim hq
    | cont => exact False.elim hq
end
end Fw
namespace Fw
open PySem PySem.Spec L2

/-! ### that a def's text is what is told -/
structure Gm where
  /-- defs: number, places -/
  fns : List (Str × Nat × Nat)
  excs : List (Str × Nat)
  cst : List (Str × D)
  /-- built-in names that nobody has set -/
  blt : List Str
  /-- defs that try what a lambda does: the way -/
  atts : List (Str × Nat)
structure Cn where
  N : List Str
  sc : Scope
  /-- within a comprehension: its own scope -/
  blk : Option Scope
  /-- lambdas may be handed to such defs here -/
  att : Bool
def nmOk (x : Str) : Bool := !(x == ("__debug__" : Str)) && !(x == ("__classdict__" : Str)) && !(x == ("__name__" : Str))
def Cn.vis (C : Cn) (x : Str) : Bool := (C.sc.names.lookup x == some .local || C.sc.names.lookup x == some .cell || C.sc.names.lookup x == some .free) && nmOk x
def Cn.gl (C : Cn) (x : Str) : Bool := C.sc.names.lookup x == some .globalImplicit && nmOk x
def Cn.at (C : Cn) (i : Nat) (x : Str) : Bool := C.N[i]? == some x
def Cn.loc (C : Cn) (x : Str) : Bool := C.sc.names.lookup x == some .local || (C.sc.names.lookup x == some .cell && (match C.blk with
  | none => true
  | some s => s.names.lookup x == some .cell))
def Cn.lc (C : Cn) (x : Str) : Bool := C.sc.names.lookup x == some .local
def noStar : Expr → Bool
  | .Starred _ _ => false
  | _ => true
def noIf : Expr → Bool
  | .IfExp _ _ _ _ => false
  | _ => true
def noSlice : Expr → Bool
  | .Slice _ _ _ _ => false
  | _ => true
def noSet : Expr → Bool
  | .Set _ _ _ => false
  | _ => true
def noComp : Expr → Bool
  | .ListComp _ _ _ _ => false
  | .SetComp _ _ _ _ => false
  | .DictComp _ _ _ _ _ => false
  | _ => true
def noTup : Expr → Bool
  | .Tuple _ _ _ => false
  | _ => true
def isBoolOp : Expr → Bool
  | .BoolOp _ _ _ => true
  | _ => false
def scEq : D → D → Bool
  | .none, .none => true
  | .bool a, .bool b => a == b
  | .int a, .int b => a == b
  | .str a, .str b => a == b
  | _, _ => false
def cstOk : D → Const → Bool
  | .none, .none => true
  | .bool a, .bool b => a == b
  | .int a, .int b => a == b
  | .str a, .str b => a == b
  | _, _ => false
def primNm : Prim → String
  | .len => "len"
  | .abs => "abs"
  | .int => "int"
  | .max => "max"
  | .min => "min"
  | .all => "all"
  | .any => "any"
  | .sum => "sum"
  | .list => "list"
  | .tuple => "tuple"
def binOk : Operator → Bool
  | .Add => true
  | .Sub => true
  | .Mult => true
  | .FloorDiv => true
  | .Mod => true
  | .Pow => true
  | _ => false
/-- the block's own names, by their slots -/
def ownAt (s : Scope) : Nat → List Str → List (Str × Nat)
  | _, [] => []
  | i, x :: r => if (s.names.lookup x == some .local || s.names.lookup x == some .cell) then (x, i) :: ownAt s (i + 1) r else ownAt s (i + 1) r
abbrev ownOf (N : List Str) (s : Scope) : List (Str × Nat) := ownAt s 0 N
def blkOk (N : List Str) (sc scope : Scope) : Bool := scope.kind == .function && scope.names.all (fun y => scope.names.lookup y.1 == some y.2) && (ownOf N scope).all (fun p => N[p.2]? == some p.1) &&
  scope.names.all (fun y => !(y.2 == .free) || sc.names.lookup y.1 == some .cell || sc.names.lookup y.1 == some .free) &&
  scope.names.all (fun y => !(y.2 == .local || y.2 == .cell) || ((ownOf N scope).map (·.1)).contains y.1 || !(N.contains y.1))
def isOne : Expr → Bool
  | .UnaryOp .USub (.Constant (.int 1) _ _) _ => true
  | _ => false
def noPar : Arguments := ⟨[], [], none, [], [], none, []⟩
def noPars : Arguments → Bool
  | ⟨[], [], none, [], [], none, []⟩ => true
  | _ => false
def noScope : Scope := { kind := .function, names := [], isGenerator := false, isCoroutine := false }
section
variable (Γ : Gm)
mutual
def chkG (C : Cn) : Tgt → Expr → Bool
  | .name i, e => match e with
    | .Name x _ => C.at i x && C.loc x
    | _ => false
  | .tup ts, e => match e with
    | .Tuple es _ _ => chkGs C ts es
    | _ => false
def chkGs (C : Cn) : List Tgt → List Expr → Bool
  | [], es => match es with
    | [] => true
    | _ => false
  | t :: ts, es => match es with
    | e :: es => noStar e && chkG C t e && chkGs C ts es
    | _ => false
end
mutual
def chkE : IE → Cn → Expr → Bool
  | .hole, _, _ => false
  | .cst d, C, e => match e with
    | .Constant c _ _ => cstOk d c
    | .Name x _ => C.gl x && (match Γ.cst.lookup x with
      | some d' => scEq d d'
      | none => false)
    | _ => false
  | .var i, C, e => match e with
    | .Name x _ => C.at i x && C.vis x
    | _ => false
  | .peek i, C, e => match e with
    | .Name x _ => C.at i x && C.vis x
    | _ => false
  | .bin o a b, C, e => match e with
    | .BinOp x op y _ => o == op && binOk op && chkE a C x && chkE b C y
    | _ => false
  | .neg a, C, e => match e with
    | .UnaryOp .USub x _ => chkE a C x
    | _ => false
  | .cmp o a b, C, e => match e with
    | .Compare x [op] [y] _ => o == op && noSet y && chkE a C x && chkE b C y
    | _ => false
  | .chain o o' a b c, C, e => match e with
    | .Compare x [op, op'] [y, z] _ => o == op && o' == op' && noSet y && noSet z && chkE a C x && chkE b C y && chkE c C z
    | _ => false
  | .not a, C, e => match e with
    | .UnaryOp .Not x _ => noIf x && chkE a C x
    | _ => false
  | .and a b, C, e => match e with
    | .BoolOp .And (x :: r) p => noIf x && chkE a C x && (match r with
      | [y] => noIf y && chkE b C y
      | y :: z :: r => chkE b C (.BoolOp .And (y :: z :: r) p)
      | _ => false)
    | _ => false
  | .or a b, C, e => match e with
    | .BoolOp .Or (x :: r) p => noIf x && chkE a C x && (match r with
      | [y] => noIf y && chkE b C y
      | y :: z :: r => chkE b C (.BoolOp .Or (y :: z :: r) p)
      | _ => false)
    | _ => false
  | .ite c a b, C, e => match e with
    | .IfExp x y z _ => noIf x && chkE c C x && chkE a C y && chkE b C z
    | _ => false
  | .tup es, C, e => match e with
    | .Tuple xs _ _ => chkL es C xs
    | _ => false
  | .lst es, C, e => match e with
    | .List xs _ => chkL es C xs
    | _ => false
  | .ix a i, C, e => match e with
    | .Subscript x y _ => noSlice y && chkE a C x && chkE i C y
    | _ => false
  | .sl a lo hi, C, e => match e with
    | .Subscript x (.Slice l h none _) _ => chkE a C x && (match l with
      | none => isHole lo
      | some y => !isHole lo && chkE lo C y) && (match h with
      | none => isHole hi
      | some y => !isHole hi && chkE hi C y)
    | _ => false
  | .rev a, C, e => match e with
    | .Subscript x (.Slice none none (some s) _) _ => isOne s && chkE a C x
    | _ => false
  | .call f n es, C, e => match e with
    | .Call (.Name x _) xs [] _ => C.gl x && Γ.fns.lookup x == some (f, n) && !xs.isEmpty && chkL es C xs
    | _ => false
  | .call0 f, C, e => match e with
    | .Call (.Name x _) [] [] _ => C.gl x && Γ.fns.lookup x == some (f, 0)
    | _ => false
  | .prim p es, C, e => match e with
    | .Call (.Name x _) xs [] _ => C.gl x && Γ.blt.contains x && x == (primNm p : Str) && !xs.isEmpty && chkL es C xs
    | _ => false
  | .isinst T a, C, e => match e with
    | .Call (.Name x _) [y, .Name z _] [] _ => C.gl x && Γ.blt.contains x && x == ("isinstance" : Str) && C.gl z && Γ.blt.contains z && z == (T : Str) && ["int", "bool", "str", "list", "tuple"].contains T && noStar y && chkE a C y
    | _ => false
  | .comp elt t it cond own, C, e => match e with
    | .ListComp x [⟨tg, iter, ifs, 0⟩] scope _ => blkOk C.N C.sc scope && own == (ownOf C.N scope).map (·.2) && noSet iter && chkI it C tg iter && (tSlots t).all own.contains &&
        chkG { N := C.N, sc := relS scope C.sc, blk := some scope, att := C.att } t tg && chkE elt { N := C.N, sc := relS scope C.sc, blk := some scope, att := C.att } x && (match ifs with
        | [] => isHole cond
        | [y] => !isHole cond && noIf y && chkE cond { N := C.N, sc := relS scope C.sc, blk := some scope, att := C.att } y
        | _ => false)
    | _ => false
  | .pop i, C, e => match e with
    | .Call (.Attribute (.Name x _) m ap) [] [] p => C.at i x && C.vis x && m == ("pop" : Str) && ap.endLine == p.line
    | _ => false
  | .att m a, C, e => match e with
    | .Call (.Name x _) [.Lambda ps body scope _] [] _ => C.att && C.gl x && Γ.atts.lookup x == some m && LamX.lamSB C.sc scope && noPars ps && chkE a { N := C.N, sc := scope, blk := some noScope, att := false } body
    | _ => false
def chkL : List IE → Cn → List Expr → Bool
  | [], _, es => match es with
    | [] => true
    | _ => false
  | a :: r, C, es => match es with
    | e :: es => noStar e && chkE a C e && chkL r C es
    | _ => false
def chkI : IT → Cn → Expr → Expr → Bool
  | .seq a, C, _, e => chkE a C e
  | .rng1 a, C, _, e => match e with
    | .Call (.Name x _) [y] [] _ => C.gl x && Γ.blt.contains x && x == ("range" : Str) && noStar y && chkE a C y
    | _ => false
  | .rng2 a b, C, _, e => match e with
    | .Call (.Name x _) [y, z] [] _ => C.gl x && Γ.blt.contains x && x == ("range" : Str) && noStar y && noStar z && chkE a C y && chkE b C z
    | _ => false
  | .enum a, C, tg, e => match e with
    | .Call (.Name x _) [y] [] _ => C.gl x && Γ.blt.contains x && x == ("enumerate" : Str) && noStar y && chkE a C y && !noTup tg
    | _ => false
  | .zip a b, C, tg, e => match e with
    | .Call (.Name x _) [y, z] [] _ => C.gl x && Γ.blt.contains x && x == ("zip" : Str) && noStar y && noStar z && chkE a C y && chkE b C z && !noTup tg
    | _ => false
end
def chkF : IF → Cn → Expr → Bool
  | .lst es, C, e => match e with
    | .List xs _ => chkL Γ es C xs
    | _ => false
  | .call f n es, C, e => match e with
    | .Call (.Name x _) xs [] _ => C.gl x && Γ.fns.lookup x == some (f, n) && !xs.isEmpty && chkL Γ es C xs
    | _ => false
def chkA : List IA → Cn → List Expr → Bool
  | [], _, es => match es with
    | [] => true
    | _ => false
  | .v a :: r, C, es => match es with
    | e :: es => noStar e && chkE Γ a C e && chkA r C es
    | _ => false
  | .o f :: r, C, es => match es with
    | e :: es => noStar e && chkF Γ f C e && chkA r C es
    | _ => false
/-- the targets' names -/
def nmsOf : List Expr → Option (List (Str × Pos))
  | [] => some []
  | .Name x p :: r => (nmsOf r).map ((x, p) :: ·)
  | _ :: _ => none
def atAll (C : Cn) : List Nat → List (Str × Pos) → Bool
  | [], [] => true
  | i :: is, (x, _) :: r => C.at i x && C.loc x && atAll C is r
  | _, _ => false
/-- two or three names of the def's own on one line -/
def swapNm (C : Cn) (ns : List (Str × Pos)) : Bool := (ns.length == 2 || ns.length == 3) && ns.all (fun p => C.lc p.1 && p.2.line == (ns.head?.map (·.2.line)).getD 0)
mutual
def chkS (C : Cn) : IS → Stmt → Bool
  | .pass, s => match s with
    | .Pass _ => true
    | _ => false
  | .brk, s => match s with
    | .Break _ => true
    | _ => false
  | .cont, s => match s with
    | .Continue _ => true
    | _ => false
  | .expr a, s => match s with
    | .Expr e _ => noComp e && chkE Γ a C e
    | _ => false
  | .ret a, s => match s with
    | .Return (some e) _ => chkE Γ a C e
    | _ => false
  | .retN, s => match s with
    | .Return none _ => true
    | _ => false
  | .retF f, s => match s with
    | .Return (some e) _ => chkF Γ f C e
    | _ => false
  | .asg t a, s => match s with
    | .Assign [g] e _ => noStar g && chkG C t g && chkE Γ a C e && (noTup g || noTup e)
    | _ => false
  | .setF i f, s => match s with
    | .Assign [.Name x _] e _ => C.at i x && C.loc x && noComp e && chkF Γ f C e
    | _ => false
  | .par is l, s => match s with
    | .Assign [.Tuple ts _ _] (.Tuple es _ _) _ => chkA Γ l C es && (match nmsOf ts with
      | none => false
      | some ns => ts.length == es.length && atAll C is ns && decide is.Nodup && decide (is.length ≤ 100) && (match swapNm C ns with
        | true => es.all (foldedForSure 8) || !(es.all (constantsAlone 8)) && (ns.map (·.1)).eraseDups.length == ns.length
        | false => !(ns.length == 2 || ns.length == 3) || ns.any (fun p => !(C.lc p.1) || !(p.2.line == (ns.head?.map (·.2.line)).getD 0))))
    | _ => false
  | .app i a, s => match s with
    | .Expr (.Call (.Attribute (.Name x _) m ap) [e] [] p) _ => C.at i x && C.vis x && m == ("append" : Str) && ap.endLine == p.line && noStar e && chkE Γ a C e
    | _ => false
  | .sub i k a, s => match s with
    | .Assign [.Subscript (.Name x _) b _] e _ => C.at i x && C.vis x && noSlice b && chkE Γ k C b && noComp e && chkE Γ a C e
    | _ => false
  | .ifs c a b, s => match s with
    | .If e s1 s2 _ => noIf e && chkE Γ c C e && chkSs C a s1 && chkSs C b s2
    | _ => false
  | .for_ t it body, s => match s with
    | .For tg iter ss [] _ => noSet iter && chkI Γ it C tg iter && chkG C t tg && chkSs C body ss
    | _ => false
  | .while_ c body, s => match s with
    | .While e ss [] _ => noIf e && chkE Γ c C e && chkSs C body ss
    | _ => false
  | .raise c, s => match s with
    | .Raise (some (.Call (.Name x _) [.Constant (.str _) _ _] [] _)) none _ => C.gl x && Γ.excs.lookup x == some c
    | _ => false
def chkSs (C : Cn) : List IS → List Stmt → Bool
  | [], ss => match ss with
    | [] => true
    | _ => false
  | a :: r, ss => match ss with
    | s :: ss => chkS C a s && chkSs C r ss
    | _ => false
end
end
end Fw
namespace Fw
open PySem PySem.Spec L2

/-- a def that tries what a lambda does -/
def AttOk (P : Program) (w : World) (K : PySem.W.Frag) (mg : Str → Option Value) (base : Heap) (code : Value) (qual : Str) (k : Nat) (G : Hp → Prop) (ec : Nat → Addr) (nm : Nat → Nat → Option D) (x : Str) (m : Nat) : Prop :=
  ∀ (X : Cx), X.prog = P → X.w = w → X.K = K → X.mg = mg → X.base = base → X.env.code = code → X.env.qual = qual → Room (k + 2) X.A →
    ∀ (A : AS) (W : WX) (body : Expr) (scope : Scope) (p lpos pos : Pos) (f : En → EOut Ref), Gl X x → LamX.LamS X.env.scope scope →
      (∀ (A1 : Around) (outer : List PySem.Env) (s : Shared) (H : Hp) (E : XK) (f' c' : Addr), Room k (A1.deeper (LamX.lamEnv X scope s.heap.objs.size f' c')) → PE (lamCxN X A1 outer s H E scope f' c') body (tE X.K ⟨A, G, ec⟩ (fun cls d _ H => E cls d H) f)) →
      PE X (.Call (.Name x p) [.Lambda noPar body scope lpos] [] pos) (tE X.K ⟨A, G, ec⟩ W (dAtt nm m f))
structure Fit (Γ : Gm) (Φ : FEnv) (G : Hp → Prop) (ec : Nat → Addr) (k : Nat) (C : Cn) (X : Cx) (W : WX) : Prop where
  N : X.N = C.N
  nd : X.N.Nodup
  sc : X.env.scope = C.sc
  kind : X.env.scope.kind = .function
  calm : X.calm = true
  fn : ∀ x, (match C.blk with
    | none => true
    | some s => s.names.lookup x == some .cell) = true → X.fn x = true
  g : GOk G
  room : Room k X.A
  tk : L2N.Takes X W
  fns : ∀ x f n, Γ.fns.lookup x = some (f, n) → ∃ a fd ps, ps.length = n ∧ FnOk X.prog X.w X.K X.mg X.base (L2N.CX X.prog X.w) k a fd ps (spOf X.K G ec ps.length (Φ.fn f)) ∧ X.mg x = some (.ref a) ∧ PySem.W.keepIn X.K (.ref a) = true ∧ Binds X.K fd ps []
  excs : ∀ x c, Γ.excs.lookup x = some c → ExcOk X x (ec c)
  cst : ∀ x d, Γ.cst.lookup x = some d → ∃ v u, X.mg x = some u ∧ scV d = some v ∧ RelV v u
  blt : ∀ x, Γ.blt.contains x = true → X.mg x = none
  att : C.att = true → Room (k + 2) X.A ∧ ∀ x m, Γ.atts.lookup x = some m → AttOk X.prog X.w X.K X.mg X.base X.env.code X.env.qual k G ec Φ.nm x m
section
variable {Γ : Gm} {Φ : FEnv} {G : Hp → Prop} {ec : Nat → Addr} {k : Nat} {C : Cn} {X : Cx} {W : WX}
theorem Fit.block (F : Fit Γ Φ G ec k C X W) {scope : Scope} (hk : scope.kind = .function) (s : Shared) (H : Hp) (D : Addr) (cl : List (Str × Addr)) (fp : List Addr) :
    Fit Γ Φ G ec k { N := C.N, sc := relS scope C.sc, blk := some scope, att := C.att } (X.blk s H scope (compEnvC scope cl D X.env) fp) W0 where
  N := F.N
  nd := F.nd
  sc := by show relS scope X.env.scope = _; rw [F.sc]
  kind := hk
  calm := F.calm
  fn := fun x h => h
  g := F.g
  room := F.room
  tk := fun u s' h => by
    obtain ⟨_, _, _, _, _, _, _, _, _, _, _, _, _, _, _, _, w⟩ := h
    exact w
  fns := F.fns
  excs := fun x c h => let E := F.excs x c h; ⟨E.g, E.k, E.x, E.b, E.t⟩
  cst := F.cst
  blt := F.blt
  att := F.att
theorem noPars_eq {ps : Arguments} (h : noPars ps = true) : ps = noPar := by
  unfold noPars at h
  split at h
  · rfl
  · cases h
theorem Fit.lam (F : Fit Γ Φ G ec k C X W) {scope : Scope} (L : LamX.LamS X.env.scope scope) (A1 : Around) (outer : List PySem.Env) (s : Shared) (H : Hp) (E : XK) (f' c' : Addr) (hr : Room k (A1.deeper (LamX.lamEnv X scope s.heap.objs.size f' c'))) :
    Fit Γ Φ G ec k { N := C.N, sc := scope, blk := some noScope, att := false } (lamCxN X A1 outer s H E scope f' c') (fun cls d _ H => E cls d H) where
  N := F.N
  nd := F.nd
  sc := rfl
  kind := L.kind
  calm := rfl
  fn := fun x h => by simp [noScope] at h
  g := F.g
  room := hr
  tk := L2N.takes_of rfl rfl rfl rfl
  fns := F.fns
  excs := fun x c h => let E := F.excs x c h; ⟨E.g, E.k, E.x, E.b, E.t⟩
  cst := F.cst
  blt := F.blt
  att := fun z => nomatch z
theorem Fit.units (F : Fit Γ Φ G ec k C X W) : X.A.units + 65 < cLine := by have := F.room.un; omega
/-! small facts -/
theorem and2 {a b : Bool} (h : (a && b) = true) : a = true ∧ b = true := by simpa using h
theorem nmOk_1 {x : Str} (h : nmOk x = true) : (x == ("__debug__" : Str)) = false := by
  unfold nmOk at h; have h := and2 h; have := (and2 h.1).1; simpa using this
theorem nmOk_2 {x : Str} (h : nmOk x = true) : (x == ("__classdict__" : Str)) = false := by
  unfold nmOk at h; have h := and2 h; have := (and2 h.1).2; simpa using this
theorem nmOk_3 {x : Str} (h : nmOk x = true) : x ≠ ("__name__" : Str) := by
  unfold nmOk at h; have h := and2 h; intro z; rw [z] at h; simp at h
theorem Fit.vis (F : Fit Γ Φ G ec k C X W) {x : Str} (h : C.vis x = true) : Vis X.env.scope x ∧ nmOk x = true := by
  unfold Cn.vis at h
  have h := and2 h
  refine ⟨?_, h.2⟩
  have := h.1
  rw [F.sc]
  simp only [Bool.or_eq_true, beq_iff_eq] at this
  rcases this with (h | h) | h
  · exact .inl h
  · exact .inr (.inl h)
  · exact .inr (.inr h)
theorem Fit.at (F : Fit Γ Φ G ec k C X W) {i : Nat} {x : Str} (h : C.at i x = true) : X.N[i]? = some x := by
  rw [F.N]; exact beq_iff_eq.mp h
theorem Fit.gl (F : Fit Γ Φ G ec k C X W) {x : Str} (h : C.gl x = true) : Gl X x ∧ nmOk x = true := by
  unfold Cn.gl at h
  have h := and2 h
  exact ⟨by show X.env.scope.names.lookup x = _; rw [F.sc]; exact beq_iff_eq.mp h.1, h.2⟩
theorem Fit.loc (F : Fit Γ Φ G ec k C X W) {x : Str} (h : C.loc x = true) : Loc X.env.scope x ∧ (X.fn x = true ∨ X.env.scope.names.lookup x = some .local) := by
  unfold Cn.loc at h
  rw [Bool.or_eq_true] at h
  rw [F.sc]
  rcases h with h | h
  · exact ⟨.inl (beq_iff_eq.mp h), .inr (beq_iff_eq.mp h)⟩
  · have h := and2 h
    exact ⟨.inr (beq_iff_eq.mp h.1), .inl (F.fn x h.2)⟩
theorem star_cons {a : Expr} {es : List Expr} {env : PySem.Env} (h : noStar a = true) : starEach (a :: es) env = (false, eval a env) :: starEach es env := by
  cases a <;> first | rfl | cases h
theorem asg_cons {a : Expr} {es : List Expr} {env : PySem.Env} (h : noStar a = true) : assignEach (a :: es) env = (false, assign a env) :: assignEach es env := by
  cases a <;> first | rfl | cases h
theorem foldNo {e : Expr} {env : PySem.Env} (h : noSet e = true) (x : Value) : foldedSetIterable e env x = pure x := by
  cases e <;> first | rfl | cases h
theorem marksNo {op : CmpOp} {e : Expr} (h : noSet e = true) : behindInMarks op e = false := by
  cases e <;> first | rfl | cases h
theorem plainIx {e : Expr} (h : noSlice e = true) : PlainIx e := by
  intro o i
  cases e <;> first | rfl | cases h
theorem swNo {e : Expr} {t : Option Expr} {l : Nat} {env : PySem.Env} (h : noComp e = true) : swapsWith e t l env = pure false := by
  cases e <;> first | rfl | cases h
theorem stNo {g e : Expr} {env : PySem.Env} (hg : noTup g = true ∨ noTup e = true) (hl : ∀ ts p, g ≠ .List ts p) : swappedStores [g] e env = pure none := by
  cases g with
  | Tuple ts k p =>
    cases e <;> first | rfl | (rcases hg with h | h <;> cases h)
  | List ts p => exact absurd rfl (hl ts p)
  | _ => rfl
theorem blkOk_of {N : List Str} {sc scope : Scope} (h : blkOk N sc scope = true) : BlkOk N sc scope (ownOf N scope) := by
  unfold blkOk at h
  have h := and2 h
  have h4 := h.2
  have h := and2 h.1
  have h3 := h.2
  have h := and2 h.1
  have h2 := h.2
  have h := and2 h.1
  have h1 := h.2
  have h0 := h.1
  refine ⟨beq_iff_eq.mp h0, fun y hy => ?_, fun p hp => ?_, fun y hy hf => ?_, fun y hy hl => ?_⟩
  · exact beq_iff_eq.mp (List.all_eq_true.mp h1 y hy)
  · exact beq_iff_eq.mp (List.all_eq_true.mp h2 p hp)
  · have := List.all_eq_true.mp h3 y hy
    rw [hf] at this
    simpa using this
  · have := List.all_eq_true.mp h4 y hy
    simp only [Bool.or_eq_true, Bool.not_eq_true', Bool.or_eq_false_iff, beq_eq_false_iff_ne, ne_eq, List.contains_iff_mem, List.contains_eq_mem, decide_eq_false_iff_not, decide_eq_true_eq] at this
    rcases this with (z | z) | z
    · rcases hl with hl | hl
      · exact absurd hl z.1
      · exact absurd hl z.2
    · exact .inl z
    · exact .inr z
theorem back_no {es : List Expr} {pos : Pos} {env : PySem.Env} (h : es.all noStar = true) : (backTo pos (starEach es env)).any (·.1) = false := by
  induction es with
  | nil => rfl
  | cons a es ih =>
    rw [List.all_cons] at h
    have h := and2 h
    rw [star_cons h.1]
    show (false || (backTo pos (starEach es env)).any (·.1)) = false
    rw [ih h.2]; rfl
theorem chkL_no {es : List IE} : ∀ {xs : List Expr}, chkL Γ es C xs = true → xs.all noStar = true := by
  induction es with
  | nil => intro xs h; cases xs with
    | nil => rfl
    | cons _ _ => cases h
  | cons a r ih =>
    intro xs h
    cases xs with
    | nil => cases h
    | cons e xs =>
      unfold chkL at h
      have h := and2 h
      have h1 := and2 h.1
      rw [List.all_cons, h1.1, ih h.2]; rfl
theorem scEq_of {d d' : D} (h : scEq d d' = true) : d = d' := by
  cases d <;> cases d' <;> simp [scEq] at h <;> first | rfl | (subst h; rfl)
theorem ev_const {κ : Kt} {d : D} {c : Const} {k : Nat} {pos : Pos} (h : cstOk d c = true) : PE X (.Constant c k pos) (tE X.K κ W fun e => .ok (.imm d) e) := by
  cases d <;> cases c <;> simp [cstOk] at h
  · exact ev_cst rfl pe_non
  · subst h; exact ev_cst rfl pe_bl
  · subst h; exact ev_cst rfl pe_int
  · subst h; exact ev_cst rfl pe_str
end

structure Snd (G : Hp → Prop) (ec : Nat → Addr) (X : Cx) (W : WX) (e : Expr) (f : En → EOut Ref) : Prop where
  ev : ∀ A, PE X e (tE X.K ⟨A, G, ec⟩ W f)
  t : noIf e = true → ∀ A, PT X e (tT X.K ⟨A, G, ec⟩ W f)
  w : isBoolOp e = true → ∀ A, PW X e (tT X.K ⟨A, G, ec⟩ W f)
section
variable {Γ : Gm} {Φ : FEnv} {G : Hp → Prop} {ec : Nat → Addr} {k : Nat} {X : Cx} {W : WX}
def plainT : Expr → Bool
  | .UnaryOp .Not _ _ => false
  | .BoolOp _ _ _ => false
  | .IfExp _ _ _ _ => false
  | .Compare _ _ _ _ => false
  | _ => true
theorem isTrue_plain {e : Expr} {env : PySem.Env} (h : plainT e = true) : ∀ whole, isTrue e env whole = (do let v ← whole; standAt e.pos; holding [v] (truthy v)) := by
  intro whole
  cases e with
  | UnaryOp op x p => cases op <;> first | rfl | cases h
  | BoolOp op x p => cases h
  | IfExp a b c p => cases h
  | Compare a b c p => cases h
  | _ => rfl
theorem Snd.of {e : Expr} {f : En → EOut Ref} (h : ∀ A, PE X e (tE X.K ⟨A, G, ec⟩ W f)) (p : plainT e = true := by rfl) : Snd G ec X W e f :=
  ⟨h, fun _ A => et_truth (h A) (isTrue_plain p), fun b => by
    cases e with
    | BoolOp op x q => cases p
    | _ => cases b⟩
theorem pe_ex {e : Expr} {f : En → EOut Ref} (h : ∀ A, PE X e (tE X.K ⟨A, G, ec⟩ W f)) : PE X e (fun σ H Q => ∃ A, tE X.K ⟨A, G, ec⟩ W f σ H Q) := ⟨fun pins s σ H Q I ⟨A, q⟩ => (h A).run pins s σ H Q I q⟩
theorem pt_ex {e : Expr} {f : En → EOut Ref} (h : ∀ A, PT X e (tT X.K ⟨A, G, ec⟩ W f)) : PT X e (fun σ H Q => ∃ A, tT X.K ⟨A, G, ec⟩ W f σ H Q) := ⟨fun pins s σ H Q I ⟨A, q⟩ => (h A).run pins s σ H Q I q⟩
theorem pg_ex {e : Expr} {S : List Nat} {b : D → En → Option En} (h : ∀ A, PG X e (tG X.K ⟨A, G, ec⟩ S b)) : PG X e (fun v σ H Q => ∃ A, tG X.K ⟨A, G, ec⟩ S b v σ H Q) := ⟨fun pins s σ H v u Q I r ⟨A, q⟩ => (h A).run pins s σ H v u Q I r q⟩
end
section
variable {Γ : Gm} {Φ : FEnv} {G : Hp → Prop} {ec : Nat → Addr} {k : Nat} {C : Cn} {X : Cx} {W : WX}
mutual
theorem snd_G (F : Fit Γ Φ G ec k C X W) : ∀ (t : Tgt) {e : Expr}, chkG C t e = true → ∀ A, PG X e (tG X.K ⟨A, G, ec⟩ (tSlots t) (dTgt t))
  | .name i, e, h, A => by
    unfold chkG at h
    split at h
    · have h := and2 h
      obtain ⟨h1, h2⟩ := F.loc h.2
      exact eg_name F.nd (F.at h.1) h1 h2
    · cases h
  | .tup ts, e, h, A => by
    unfold chkG at h
    split at h
    · rename_i es k p
      obtain ⟨h1, h2, h3⟩ := snd_Gs F ts h A
      exact eg_tup F.calm h1 h2 h3
    · cases h
theorem snd_Gs (F : Fit Γ Φ G ec k C X W) : ∀ (ts : List Tgt) {es : List Expr}, chkGs C ts es = true → ∀ A, PGs X es (tGs X.K ⟨A, G, ec⟩ (tSlotsL ts) (dTgts ts)) ∧ (assignEach es X.env).length = ts.length ∧ (assignEach es X.env).findIdx? (·.1) = none
  | [], es, h, A => by
    unfold chkGs at h
    split at h
    · exact ⟨egs_nil, rfl, rfl⟩
    · cases h
  | t :: ts, es, h, A => by
    unfold chkGs at h
    split at h
    · rename_i e es
      have h := and2 h
      have h0 := and2 h.1
      obtain ⟨h1, h2, h3⟩ := snd_Gs F ts h.2 A
      refine ⟨egs_cons (snd_G F t h0.2 A) h1 (by rw [asg_cons h0.1]; rfl), by rw [asg_cons h0.1]; exact congrArg (· + 1) h2, ?_⟩
      rw [asg_cons h0.1, List.findIdx?_cons]
      simp [h3]
    · cases h
end
theorem chkG_noList {t : Tgt} {g : Expr} (h : chkG C t g = true) : ∀ ts p, g ≠ .List ts p := fun ts p z => by
  subst z
  cases t <;> cases h
end
end Fw
namespace Fw
open PySem PySem.Spec L2
section
variable {Γ : Gm} {Φ : FEnv} {G : Hp → Prop} {ec : Nat → Addr} {k : Nat} {C : Cn} {X : Cx} {W : WX}
theorem bin_ok (g : GOk G) {op : Operator} (h : binOk op = true) : ∃ r, OpR X (binaryOp op) r ∧ RG X.K G r (gBin op) := by
  cases op with
  | Add => exact ⟨_, op_addD, rg_add g⟩
  | Sub => exact ⟨_, op_sub, rg_sub⟩
  | Mult => exact ⟨_, op_mulD, rg_mul g⟩
  | FloorDiv => exact ⟨_, op_fdiv, rg_fdiv⟩
  | Mod => exact ⟨_, op_mod, rg_mod⟩
  | Pow => exact ⟨_, op_pow, rg_pow⟩
  | _ => cases h
theorem cmp_ok (hu : X.A.units + 65 < cLine) (op : CmpOp) : ∃ r, OpR X (compareOp op) r ∧ RG X.K G r (gCmp op) ∧ isB (gCmp op) := by
  cases op with
  | Eq => exact ⟨_, op_eqM (by omega), rg_eq, isB_eq⟩
  | NotEq => exact ⟨_, op_neM (by omega), rg_ne, isB_ne⟩
  | Lt => exact ⟨_, op_lt, rg_lt, isB_lt⟩
  | LtE => exact ⟨_, op_le, rg_le, isB_le⟩
  | Gt => exact ⟨_, op_gt, rg_gt, isB_gt⟩
  | GtE => exact ⟨_, op_ge, rg_ge, isB_ge⟩
  | Is => exact ⟨_, op_isM, rg_is, isB_is⟩
  | IsNot => exact ⟨_, op_isNotM, rg_isNot, isB_isNot⟩
  | In => exact ⟨_, op_inM (by omega), rg_in, isB_in⟩
  | NotIn => exact ⟨_, op_notInM (by omega), rg_notIn, isB_notIn⟩
theorem ins_boot {T : String} (h : (["int", "bool", "str", "list", "tuple"].contains T) = true) : T ∈ ["int", "bool", "str", "list", "tuple"] ∧ bootBuiltins (T : Str) = some (.type T) := by
  have hm : T ∈ ["int", "bool", "str", "list", "tuple"] := List.contains_iff_mem.mp h
  refine ⟨hm, ?_⟩
  simp only [List.mem_cons, List.not_mem_nil, or_false] at hm
  rcases hm with rfl | rfl | rfl | rfl | rfl <;> decide +kernel
theorem prim_ok (F : Fit Γ Φ G ec k C X W) (p : Prim) {κ : Kt} (hG : κ.G = G) {a : Expr} {es : List Expr} {fl : En → EOut (List Ref)} {pos q : Pos} (hg : Gl X (primNm p : Str)) (hm : X.mg (primNm p : Str) = none)
    (ha : PA X (a :: es) (tL X.K κ W fl)) (he : starEach (a :: es) X.env = (false, eval a X.env) :: starEach es X.env) (hpl : (backTo pos (starEach es X.env)).any (·.1) = false) :
    PE X (.Call (.Name (primNm p : Str) q) (a :: es) [] pos) (tE X.K κ W (dCB (gPrim p) fl)) := by
  have g : GOk κ.G := hG ▸ F.g
  cases p with
  | len => exact ev_callB call_len rc_len hg hm (by decide +kernel) ha (by decide) (by decide) he hpl
  | abs => exact ev_callB call_abs rc_abs hg hm (by decide +kernel) ha (by decide) (by decide) he hpl
  | int => exact ev_callTy call_int1 rc_int hg hm (by decide +kernel) ha (by decide) (by decide) he hpl
  | max => exact ev_callB (call_max2 F.calm) rc_max hg hm (by decide +kernel) ha (by decide) (by decide) he hpl
  | min => exact ev_callB (call_min2 F.calm) rc_min hg hm (by decide +kernel) ha (by decide) (by decide) he hpl
  | all => exact ev_callB (cr_all F.calm) rc_all hg hm (by decide +kernel) ha (by decide) (by decide) he hpl
  | any => exact ev_callB (cr_any F.calm) rc_any hg hm (by decide +kernel) ha (by decide) (by decide) he hpl
  | sum => exact ev_callB (cr_sum2 F.calm) rc_sum hg hm (by decide +kernel) ha (by decide) (by decide) he hpl
  | list => exact ev_callTy call_list_of (rc_list g) hg hm (by decide +kernel) ha (by decide) (by decide) he hpl
  | tuple => exact ev_callTy call_tuple_of (rc_tuple g) hg hm (by decide +kernel) ha (by decide) (by decide) he hpl
theorem isOne_eq {s : Expr} (h : isOne s = true) : ∃ k p1 p2, s = .UnaryOp .USub (.Constant (.int 1) k p1) p2 := by
  unfold isOne at h
  split at h
  · exact ⟨_, _, _, rfl⟩
  · cases h
end
section
variable {Γ : Gm} {Φ : FEnv} {G : Hp → Prop} {ec : Nat → Addr} {k : Nat}
set_option maxHeartbeats 1000000
mutual
theorem snd_E : ∀ (ir : IE) {C : Cn} {X : Cx} {W : WX} (F : Fit Γ Φ G ec k C X W) {e : Expr}, chkE Γ ir C e = true → Snd G ec X W e (den Φ ir)
  | .hole, C, X, W, F, e, h => by unfold chkE at h; cases h
  | .cst d, C, X, W, F, e, h => by
    unfold chkE at h
    split at h
    · exact .of fun A => ev_const h
    · rename_i x p
      have h := and2 h
      obtain ⟨h1, h2⟩ := F.gl h.1
      have h := h.2
      split at h
      · rename_i d' hd
        obtain rfl := scEq_of h
        obtain ⟨v, u, k1, k2, k3⟩ := F.cst x d hd
        exact .of fun A => ev_cst k2 (pe_glob h1 k1 k3 (nmOk_1 h2))
      · cases h
    · cases h
  | .var i, C, X, W, F, e, h => by
    unfold chkE at h
    split at h
    · have h := and2 h
      obtain ⟨h1, h2⟩ := F.vis h.2
      exact .of fun A => ev_var (F.at h.1) h1 (nmOk_1 h2) (nmOk_2 h2)
    · cases h
  | .peek i, C, X, W, F, e, h => by
    unfold chkE at h
    split at h
    · have h := and2 h
      obtain ⟨h1, h2⟩ := F.vis h.2
      exact .of fun A => ev_peek (F.at h.1) h1 (nmOk_1 h2) (nmOk_2 h2)
    · cases h
  | .bin o a b, C, X, W, F, e, h => by
    unfold chkE at h
    split at h
    · rename_i x op y p
      have h := and2 h
      have h1 := and2 h.1
      have h2 := and2 h1.1
      obtain rfl : o = op := beq_iff_eq.mp h2.1
      obtain ⟨r, k1, k2⟩ := bin_ok (X := X) F.g h2.2
      exact .of fun A => ev_op k1 k2 ((snd_E a F h1.2).ev A) ((snd_E b F h.2).ev A)
    · cases h
  | .neg a, C, X, W, F, e, h => by
    unfold chkE at h
    split at h
    · exact .of fun A => ev_neg ((snd_E a F h).ev A)
    · cases h
  | .cmp o a b, C, X, W, F, e, h => by
    unfold chkE at h
    split at h
    · rename_i x op y p
      have h := and2 h
      have h1 := and2 h.1
      have h2 := and2 h1.1
      obtain rfl : o = op := beq_iff_eq.mp h2.1
      obtain ⟨r, k1, k2, k3⟩ := cmp_ok (X := X) (G := G) F.units o
      exact ⟨fun A => ev_cmp k1 k2 ((snd_E a F h1.2).ev A) ((snd_E b F h.2).ev A) (marksNo h2.2), fun _ A => et_cmp k3 k1 k2 ((snd_E a F h1.2).ev A) ((snd_E b F h.2).ev A) (marksNo h2.2), fun b => by cases b⟩
    · cases h
  | .chain o o' a b c, C, X, W, F, e, h => by
    unfold chkE at h
    split at h
    · rename_i x op op' y z p
      have h := and2 h
      have h1 := and2 h.1
      have h2 := and2 h1.1
      have h3 := and2 h2.1
      have h4 := and2 h3.1
      have h5 := and2 h4.1
      obtain rfl : o = op := beq_iff_eq.mp h5.1
      obtain rfl : o' = op' := beq_iff_eq.mp h5.2
      obtain ⟨r, k1, k2, k3⟩ := cmp_ok (X := X) (G := G) F.units o
      obtain ⟨r', k1', k2', k3'⟩ := cmp_ok (X := X) (G := G) F.units o'
      exact ⟨fun A => ev_chain k3 k1 k1' k2 k2' ((snd_E a F h2.2).ev A) ((snd_E b F h1.2).ev A) ((snd_E c F h.2).ev A) (marksNo h3.2), fun _ A => et_chain k3 k3' k1 k1' k2 k2' ((snd_E a F h2.2).ev A) ((snd_E b F h1.2).ev A) ((snd_E c F h.2).ev A) (marksNo h3.2), fun b => by cases b⟩
    · cases h
  | .not a, C, X, W, F, e, h => by
    unfold chkE at h
    split at h
    · have h := and2 h
      exact ⟨fun A => ev_not ((snd_E a F h.2).ev A), fun _ A => et_not ((snd_E a F h.2).t h.1 A), fun b => by cases b⟩
    · cases h
  | .and a b, C, X, W, F, e, h => by
    unfold chkE at h
    split at h
    · rename_i x r p
      have h := and2 h
      have h1 := and2 h.1
      have h := h.2
      have sa := snd_E a F h1.2
      cases r with
      | nil => cases h
      | cons y r =>
      cases r with
      | nil =>
        have h : (noIf y && chkE Γ b C y) = true := h
        have h := and2 h
        have sb := snd_E b F h.2
        have w : ∀ A, PW X (.BoolOp .And [x, y] p) (tT X.K ⟨A, G, ec⟩ W (den Φ (.and a b))) := fun A => ew_and (sa.t h1.1 A) (ew_and1 (sb.t h.1 A))
        exact ⟨fun A => ev_and (p2 := p) (sa.ev A) (ev_one (sb.ev A)), fun _ A => (w A).pt, fun _ => w⟩
      | cons z r =>
        have h : chkE Γ b C (.BoolOp .And (y :: z :: r) p) = true := h
        have sb := snd_E b F h
        have w : ∀ A, PW X (.BoolOp .And (x :: y :: z :: r) p) (tT X.K ⟨A, G, ec⟩ W (den Φ (.and a b))) := fun A => ew_and (sa.t h1.1 A) (sb.w rfl A)
        exact ⟨fun A => ev_and (p2 := p) (sa.ev A) (sb.ev A), fun _ A => (w A).pt, fun _ => w⟩
    · cases h
  | .or a b, C, X, W, F, e, h => by
    unfold chkE at h
    split at h
    · rename_i x r p
      have h := and2 h
      have h1 := and2 h.1
      have h := h.2
      have sa := snd_E a F h1.2
      cases r with
      | nil => cases h
      | cons y r =>
      cases r with
      | nil =>
        have h : (noIf y && chkE Γ b C y) = true := h
        have h := and2 h
        have sb := snd_E b F h.2
        have w : ∀ A, PW X (.BoolOp .Or [x, y] p) (tT X.K ⟨A, G, ec⟩ W (den Φ (.or a b))) := fun A => ew_or (sa.t h1.1 A) (ew_or1 (sb.t h.1 A))
        exact ⟨fun A => ev_or (sa.ev A) (ev_one (sb.ev A)), fun _ A => (w A).pt, fun _ => w⟩
      | cons z r =>
        have h : chkE Γ b C (.BoolOp .Or (y :: z :: r) p) = true := h
        have sb := snd_E b F h
        have w : ∀ A, PW X (.BoolOp .Or (x :: y :: z :: r) p) (tT X.K ⟨A, G, ec⟩ W (den Φ (.or a b))) := fun A => ew_or (sa.t h1.1 A) (sb.w rfl A)
        exact ⟨fun A => ev_or (sa.ev A) (sb.ev A), fun _ A => (w A).pt, fun _ => w⟩
    · cases h
  | .ite c a b, C, X, W, F, e, h => by
    unfold chkE at h
    split at h
    · have h := and2 h
      have h1 := and2 h.1
      have h2 := and2 h1.1
      exact ⟨fun A => ev_ifExp ((snd_E c F h2.2).t h2.1 A) ((snd_E a F h1.2).ev A) ((snd_E b F h.2).ev A), fun n => (by cases n), fun b => (by cases b)⟩
    · cases h
  | .tup es, C, X, W, F, e, h => by
    unfold chkE at h
    split at h
    · exact .of fun A => ev_tup F.g (snd_L es F h A)
    · cases h
  | .lst es, C, X, W, F, e, h => by
    unfold chkE at h
    split at h
    · exact .of fun A => ev_lst F.g (snd_L es F h A)
    · cases h
  | .ix a i, C, X, W, F, e, h => by
    unfold chkE at h
    split at h
    · have h := and2 h
      have h1 := and2 h.1
      exact .of fun A => ev_ix ((snd_E a F h1.2).ev A) ((snd_E i F h.2).ev A) (plainIx h1.1)
    · cases h
  | .sl a lo hi, C, X, W, F, e, h => by
    unfold chkE at h
    split at h
    · rename_i x l hh q p
      have h := and2 h
      have h1 := and2 h.1
      have hl : ∀ A, PO X l (tO X.K ⟨A, G, ec⟩ W (dPart (bif isHole lo then none else some (den Φ lo)))) := fun A => by
        have h := h1.2
        split at h
        · rw [h]; exact eo_none
        · have h := and2 h
          rw [Bool.not_eq_true' _ |>.mp h.1]
          exact eo_some ((snd_E lo F h.2).ev A)
      have hu : ∀ A, PO X hh (tO X.K ⟨A, G, ec⟩ W (dPart (bif isHole hi then none else some (den Φ hi)))) := fun A => by
        have h := h.2
        split at h
        · rw [h]; exact eo_none
        · have h := and2 h
          rw [Bool.not_eq_true' _ |>.mp h.1]
          exact eo_some ((snd_E hi F h.2).ev A)
      exact .of fun A => ev_slice F.g ((snd_E a F h1.1).ev A) (hl A) (hu A)
    · cases h
  | .rev a, C, X, W, F, e, h => by
    unfold chkE at h
    split at h
    · have h := and2 h
      obtain ⟨k, p1, p2, rfl⟩ := isOne_eq h.1
      exact .of fun A => ev_revL F.g ((snd_E a F h.2).ev A)
    · cases h
  | .call f n es, C, X, W, F, e, h => by
    unfold chkE at h
    split at h
    · rename_i x q xs p
      have h := and2 h
      have h1 := and2 h.1
      have h2 := and2 h1.1
      obtain ⟨g1, g2⟩ := F.gl h2.1
      obtain ⟨a, fd, ps, rfl, k1, k3, k4, k5⟩ := F.fns x f n (beq_iff_eq.mp h2.2)
      have hno := chkL_no h.2
      have ha := snd_L es F h.2
      cases xs with
      | nil => cases h1.2
      | cons y ys =>
        have hs := and2 hno
        exact .of fun A => ev_call k1 F.room g1 k3 k4 k5 F.tk (ha A) (nmOk_1 g2) (star_cons hs.1) (back_no hs.2)
    · cases h
  | .call0 f, C, X, W, F, e, h => by
    unfold chkE at h
    split at h
    · rename_i x q p
      have h := and2 h
      obtain ⟨g1, g2⟩ := F.gl h.1
      obtain ⟨a, fd, ps, k0, k1, k3, k4, k5⟩ := F.fns x f 0 (beq_iff_eq.mp h.2)
      exact .of fun A => ev_call0 k1 (List.length_eq_zero_iff.mp k0) F.room g1 k3 k4 k5 (nmOk_1 g2)
    · cases h
  | .prim q es, C, X, W, F, e, h => by
    unfold chkE at h
    split at h
    · rename_i x r xs p
      have h := and2 h
      have h1 := and2 h.1
      have h2 := and2 h1.1
      have h3 := and2 h2.1
      obtain ⟨g1, g2⟩ := F.gl h3.1
      have hm := F.blt x h3.2
      obtain rfl : x = (primNm q : Str) := beq_iff_eq.mp h2.2
      have hno := chkL_no h.2
      have ha := snd_L es F h.2
      cases xs with
      | nil => cases h1.2
      | cons y ys =>
        have hs := and2 hno
        exact .of fun A => prim_ok F q rfl g1 hm (ha A) (star_cons hs.1) (back_no hs.2)
    · cases h
  | .isinst T a, C, X, W, F, e, h => by
    unfold chkE at h
    split at h
    · rename_i x q y z r p
      have h := and2 h
      have h1 := and2 h.1
      have h2 := and2 h1.1
      have h3 := and2 h2.1
      have h4 := and2 h3.1
      have h5 := and2 h4.1
      have h6 := and2 h5.1
      have h7 := and2 h6.1
      obtain ⟨g1, g2⟩ := F.gl h7.1
      obtain ⟨g3, g4⟩ := F.gl h5.2
      have hm := F.blt x h7.2
      have hz := F.blt z h4.2
      obtain rfl : x = ("isinstance" : Str) := beq_iff_eq.mp h6.2
      obtain rfl : z = (T : Str) := beq_iff_eq.mp h3.2
      obtain ⟨m1, m2⟩ := ins_boot h2.2
      exact .of fun A => ev_isinst m1 m2 (nmOk_3 g4) (nmOk_1 g4) g3 hz g1 hm ((snd_E a F h.2).ev A) (star_cons h1.2)
    · cases h
  | .comp elt t it cond own, C, X, W, F, e, h => by
    unfold chkE at h
    split at h
    · rename_i x tg iter ifs scope p
      have h := and2 h
      have h1 := and2 h.1
      have h2 := and2 h1.1
      have h3 := and2 h2.1
      have h4 := and2 h3.1
      have h5 := and2 h4.1
      have h6 := and2 h5.1
      have bo := blkOk_of h6.1
      obtain rfl : own = (ownOf C.N scope).map (·.2) := beq_iff_eq.mp h6.2
      have hk := bo.kind
      rw [← F.N, ← F.sc] at bo
      have ht : ∀ (s : Shared) (H : Hp) (D : Addr) (cl : List (Str × Addr)) (fp : List Addr), PTs (X.blk s H scope (compEnvC scope cl D X.env) fp) ifs (fun σ H Q => ∃ A, tTs X.K ⟨A, G, ec⟩ (bif isHole cond then none else some (den Φ cond)) σ H Q) := fun s H D cl fp => by
        have h := h.2
        split at h
        · rw [h]; exact ⟨fun pins s σ H Q I ⟨A, q⟩ => (pts_nil).run pins s σ H Q I q⟩
        · have h := and2 h
          have h' := and2 h.1
          rw [Bool.not_eq_true' _ |>.mp h'.1]
          exact pts_one (pt_ex fun A => (snd_E cond (F.block hk s H D cl fp) h.2).t h'.2 A)
        · cases h
      refine .of fun A => ?_
      show PE X _ (tE X.K ⟨A, G, ec⟩ W (dComp (denI Φ it) _ (dTgt t) _ (den Φ elt)))
      rw [← F.N]
      exact ev_comp (g := fun _ _ _ _ => True) (tt := fun _ _ _ => True) (te := fun _ _ _ => True) F.g F.calm F.nd (snd_I it F h4.2 A) bo (fun s H D cl fp => pg_ex fun A => snd_G (F.block hk s H D cl fp) t h2.2 A) ht (fun s H D cl fp => pe_ex fun A => (snd_E elt (F.block hk s H D cl fp) h1.2).ev A)
        (fun v => foldNo h5.2 v) (fun i hi => by rw [F.N]; exact List.contains_iff_mem.mp (List.all_eq_true.mp h3.2 i hi))
    · cases h
  | .pop i, C, X, W, F, e, h => by
    unfold chkE at h
    split at h
    · rename_i x q m ap p
      have h := and2 h
      have h1 := and2 h.1
      have h2 := and2 h1.1
      obtain ⟨g1, g2⟩ := F.vis h2.2
      obtain rfl : m = ("pop" : Str) := beq_iff_eq.mp h1.2
      exact .of fun A => ev_pop F.g (F.at h2.1) g1 (nmOk_1 g2) (nmOk_2 g2) h.2
    · cases h
  | .att m a, C, X, W, F, e, h => by
    unfold chkE at h
    split at h
    · rename_i x q ps body scope lp p
      have h := and2 h
      have h1 := and2 h.1
      have h2 := and2 h1.1
      have h3 := and2 h2.1
      have h4 := and2 h3.1
      obtain ⟨g1, g2⟩ := F.gl h4.2
      obtain ⟨r, ha⟩ := F.att h4.1
      have L : LamX.LamS X.env.scope scope := by rw [F.sc]; exact LamX.lamS_by h2.2
      obtain rfl := noPars_eq h1.2
      exact .of fun A => ha x m (beq_iff_eq.mp h3.2) X rfl rfl rfl rfl rfl rfl rfl r A W body scope q lp p (den Φ a) g1 L fun A1 outer s H E f' c' hr => (snd_E a (F.lam L A1 outer s H E f' c' hr) h.2).ev A
    · cases h
theorem snd_L : ∀ (es : List IE) {C : Cn} {X : Cx} {W : WX} (F : Fit Γ Φ G ec k C X W) {xs : List Expr}, chkL Γ es C xs = true → ∀ A, PA X xs (tL X.K ⟨A, G, ec⟩ W (denL Φ es))
  | [], C, X, W, F, xs, h, A => by
    unfold chkL at h
    split at h
    · exact ea_nil
    · cases h
  | a :: r, C, X, W, F, xs, h, A => by
    unfold chkL at h
    split at h
    · have h := and2 h
      have h1 := and2 h.1
      exact ea_cons ((snd_E a F h1.2).ev A) (snd_L r F h.2 A) (star_cons h1.1)
    · cases h
theorem snd_I : ∀ (it : IT) {C : Cn} {X : Cx} {W : WX} (F : Fit Γ Φ G ec k C X W) {tg e : Expr}, chkI Γ it C tg e = true → ∀ A, PI X tg e (tI X.K ⟨A, G, ec⟩ W (denI Φ it))
  | .seq a, C, X, W, F, tg, e, h, A => by
    unfold chkI at h
    exact ei_seq ((snd_E a F h).ev A)
  | .rng1 a, C, X, W, F, tg, e, h, A => by
    unfold chkI at h
    split at h
    · rename_i x q y p
      have h := and2 h
      have h1 := and2 h.1
      have h2 := and2 h1.1
      have h3 := and2 h2.1
      obtain ⟨g1, g2⟩ := F.gl h3.1
      have hm := F.blt x h3.2
      obtain rfl : x = ("range" : Str) := beq_iff_eq.mp h2.2
      exact ei_range1 g1 hm ((snd_E a F h.2).ev A) (star_cons h1.2)
    · cases h
  | .rng2 a b, C, X, W, F, tg, e, h, A => by
    unfold chkI at h
    split at h
    · rename_i x q y z p
      have h := and2 h
      have h0 := and2 h.1
      have h1 := and2 h0.1
      have h2 := and2 h1.1
      have h3 := and2 h2.1
      have h4 := and2 h3.1
      obtain ⟨g1, g2⟩ := F.gl h4.1
      have hm := F.blt x h4.2
      obtain rfl : x = ("range" : Str) := beq_iff_eq.mp h3.2
      exact ei_range2 g1 hm ((snd_E a F h0.2).ev A) ((snd_E b F h.2).ev A) (star_cons h2.2) (star_cons h1.2)
    · cases h
  | .enum a, C, X, W, F, tg, e, h, A => by
    unfold chkI at h
    split at h
    · rename_i x q y p
      have h := and2 h
      have h0 := and2 h.1
      have h1 := and2 h0.1
      have h2 := and2 h1.1
      have h3 := and2 h2.1
      obtain ⟨g1, g2⟩ := F.gl h3.1
      have hm := F.blt x h3.2
      obtain rfl : x = ("enumerate" : Str) := beq_iff_eq.mp h2.2
      cases tg with
      | Tuple elts kk tp => exact ei_enum F.g g1 hm ((snd_E a F h0.2).ev A) (star_cons h1.2)
      | _ => cases h.2
    · cases h
  | .zip a b, C, X, W, F, tg, e, h, A => by
    unfold chkI at h
    split at h
    · rename_i x q y z p
      have h := and2 h
      have h00 := and2 h.1
      have h0 := and2 h00.1
      have h1 := and2 h0.1
      have h2 := and2 h1.1
      have h3 := and2 h2.1
      have h4 := and2 h3.1
      obtain ⟨g1, g2⟩ := F.gl h4.1
      have hm := F.blt x h4.2
      obtain rfl : x = ("zip" : Str) := beq_iff_eq.mp h3.2
      cases tg with
      | Tuple elts kk tp => exact ei_zip F.g g1 hm ((snd_E a F h0.2).ev A) ((snd_E b F h00.2).ev A) (star_cons h2.2) (star_cons h1.2)
      | _ => cases h.2
    · cases h
end
end
end Fw
namespace Fw
open PySem PySem.Spec L2
section
variable {Γ : Gm} {Φ : FEnv} {G : Hp → Prop} {ec : Nat → Addr} {k : Nat} {C : Cn} {X : Cx} {W : WX}
theorem snd_F (F : Fit Γ Φ G ec k C X W) : ∀ (f : IF) {e : Expr}, chkF Γ f C e = true → ∀ A, PE X e (tF X.K ⟨A, G, ec⟩ W (denF Φ f))
  | .lst es, e, h, A => by
    dsimp only [chkF] at h
    split at h
    · exact ef_lst F.g (snd_L es F h A)
    · cases h
  | .call f n es, e, h, A => by
    dsimp only [chkF] at h
    split at h
    · rename_i x q xs p
      have h := and2 h
      have h1 := and2 h.1
      have h2 := and2 h1.1
      obtain ⟨g1, g2⟩ := F.gl h2.1
      obtain ⟨a, fd, ps, rfl, k1, k3, k4, k5⟩ := F.fns x f n (beq_iff_eq.mp h2.2)
      have hno := chkL_no h.2
      have ha := snd_L es F h.2
      cases xs with
      | nil => cases h1.2
      | cons y ys =>
        have hs := and2 hno
        exact ef_call k1 F.room g1 k3 k4 k5 F.tk (ha A) (nmOk_1 g2) (star_cons hs.1) (back_no hs.2)
    · cases h
theorem snd_A (F : Fit Γ Φ G ec k C X W) : ∀ (l : List IA) {es : List Expr}, chkA Γ l C es = true → AKs X G ec W es (l.map (denA Φ)) ∧ es.all noStar = true
  | [], es, h => by
    unfold chkA at h
    split at h
    · exact ⟨rfl, rfl⟩
    · cases h
  | .v a :: r, es, h => by
    unfold chkA at h
    split at h
    · have h := and2 h
      have h1 := and2 h.1
      obtain ⟨k1, k2⟩ := snd_A F r h.2
      exact ⟨⟨(snd_E a F h1.2).ev, k1⟩, by rw [List.all_cons, h1.1, k2]; rfl⟩
    · cases h
  | .o f :: r, es, h => by
    unfold chkA at h
    split at h
    · have h := and2 h
      have h1 := and2 h.1
      obtain ⟨k1, k2⟩ := snd_A F r h.2
      exact ⟨⟨snd_F F f h1.2, k1⟩, by rw [List.all_cons, h1.1, k2]; rfl⟩
    · cases h
theorem chkF_noComp {f : IF} {e : Expr} (h : chkF Γ f C e = true) : noComp e = true := by
  cases f <;> (dsimp only [chkF] at h; split at h <;> first | rfl | cases h)
theorem chk_star {es : List Expr} (h : es.all noStar = true) (b : Expr) (r : List Expr) : starEach (b :: r) X.env = (false, eval b X.env) :: starEach r X.env ∨ b ∉ es := by
  by_cases hb : noStar b = true
  · exact .inl (star_cons hb)
  · exact .inr fun z => hb (List.all_eq_true.mp h b z)
theorem nms_at : ∀ {is : List Nat} {ns : List (Str × Pos)} {ts : List Expr}, (F : Fit Γ Φ G ec k C X W) → nmsOf ts = some ns → atAll C is ns = true → PGs X ts (gNames is) ∧ (assignEach ts X.env).length = is.length ∧ (assignEach ts X.env).findIdx? (·.1) = none
  | is, ns, [], F, h, ha => by
    cases h
    cases is with
    | nil => exact ⟨pgs_nil, rfl, rfl⟩
    | cons i is => cases ha
  | is, ns, t :: ts, F, h, ha => by
    cases t with
    | Name x p =>
      obtain ⟨ns', h1, rfl⟩ := Option.map_eq_some_iff.mp h
      cases is with
      | nil => cases ha
      | cons i is =>
        have ha := and2 ha
        have h2 := and2 ha.1
        obtain ⟨k1, k2, k3⟩ := nms_at F h1 ha.2
        obtain ⟨l1, l2⟩ := F.loc h2.2
        refine ⟨pgs_cons (pg_name F.nd (F.at h2.1) l1 l2) k1 rfl, congrArg (· + 1) k2, ?_⟩
        show ((false, assign (.Name x p) X.env) :: assignEach ts X.env).findIdx? (·.1) = none
        rw [List.findIdx?_cons]
        simp [k3]
    | _ => cases h
theorem nms_eq : ∀ {ts : List Expr} {ns : List (Str × Pos)}, nmsOf ts = some ns → ts = ns.map fun p => .Name p.1 p.2
  | [], _, h => by cases h; rfl
  | t :: ts, ns, h => by
    cases t with
    | Name x p =>
      obtain ⟨ns', h1, rfl⟩ := Option.map_eq_some_iff.mp h
      rw [List.map_cons, ← nms_eq h1]
    | _ => cases h
theorem noStar_any {f : Expr → Bool} {es : List Expr} (h : es.all noStar = true) (hf : ∀ e, noStar e = true → f e = false) : es.any f = false := by
  rw [List.any_eq_false]
  intro e he
  have := hf e (List.all_eq_true.mp h e he)
  rw [this]; exact Bool.false_ne_true
theorem noStar_f {e : Expr} {f : Expr → Bool} (h : noStar e = true) (hf : ∀ e, f e = match e with | .Starred _ _ => true | _ => false) : f e = false := by
  rw [hf]; cases e <;> first | rfl | cases h
theorem sw_names {env : PySem.Env} {l : Nat} {f : Expr → Option Str} : ∀ {ns : List (Str × Pos)}, (ns.all fun p => env.kindOf p.1 == some NameKind.local && p.2.line == l) = true → (∀ x p, f (.Name x p) = if (env.kindOf x == some NameKind.local && p.line == l) = true then some x else none) →
    ((ns.map fun p => Expr.Name p.1 p.2).filterMap f) = ns.map (·.1)
  | [], _, _ => rfl
  | (x, p) :: ns, h, hf => by
    rw [List.all_cons] at h
    have h := and2 h
    rw [List.map_cons, List.filterMap_cons, hf, if_pos h.1]
    exact congrArg (x :: ·) (sw_names h.2 hf)
theorem sw_few {env : PySem.Env} {l : Nat} {f : Expr → Option Str} : ∀ {ns : List (Str × Pos)}, (ns.any fun p => !(env.kindOf p.1 == some NameKind.local) || !(p.2.line == l)) = true → (∀ x p, f (.Name x p) = if (env.kindOf x == some NameKind.local && p.line == l) = true then some x else none) →
    ((ns.map fun p => Expr.Name p.1 p.2).filterMap f).length < ns.length
  | (x, p) :: ns, h, hf => by
    have le : ∀ (q : List (Str × Pos)), ((q.map fun p => Expr.Name p.1 p.2).filterMap f).length ≤ q.length := fun q => by
      refine Nat.le_trans (List.length_filterMap_le _ _) ?_
      rw [List.length_map]; exact Nat.le_refl _
    rw [List.any_cons] at h
    rw [List.map_cons, List.filterMap_cons, hf]
    by_cases hc : (env.kindOf x == some NameKind.local && p.line == l) = true
    · rw [if_pos hc]
      have h2 : (!(env.kindOf x == some NameKind.local) || !(p.line == l)) = false := by
        have := and2 hc
        rw [this.1, this.2]; rfl
      rw [h2, Bool.false_or] at h
      exact Nat.succ_lt_succ (sw_few h hf)
    · rw [if_neg hc]
      exact Nat.lt_succ_of_le (le ns)
theorem head_line {ns : List (Str × Pos)} : ((ns.map fun p => Expr.Name p.1 p.2).head?.map (·.pos.line)).getD 0 = (ns.head?.map (·.2.line)).getD 0 := by
  cases ns <;> rfl
theorem ss_some (F : Fit Γ Φ G ec k C X W) {ns : List (Str × Pos)} {es : List Expr} {kt k2 : Nat} {pt p2 : Pos} (hl : ns.length = es.length) (hs : es.all noStar = true) (hn : swapNm C ns = true) (h1 : es.all (constantsAlone 8) = false) (h2 : es.all (foldedForSure 8) = false) (h3 : (ns.map (·.1)).eraseDups.length = ns.length) :
    swappedStores [.Tuple (ns.map fun p => .Name p.1 p.2) kt pt] (.Tuple es k2 p2) X.env = pure (some (ns.map (·.1))) := by
  have hb : X.env.blockKind = .function := by unfold PySem.Env.blockKind; rw [F.kind]; rfl
  unfold swapNm at hn
  have hn := and2 hn
  have hk : ∀ x, (X.env.kindOf x == some .local) = C.lc x := fun x => by show (X.env.scope.names.lookup x == _) = _; rw [F.sc]; rfl
  have hall : (ns.all fun p => X.env.kindOf p.1 == some NameKind.local && p.2.line == (ns.head?.map (·.2.line)).getD 0) = true := by simpa only [hk] using hn.2
  unfold swappedStores
  dsimp only
  rw [head_line, sw_names hall ?_, List.length_map, hn.1, hl, hb, noStar_any hs ?_, h1, h2]
  · rw [← hl, List.length_map, h3]
    simp
  · intro e he; cases e <;> first | rfl | cases he
  · intro x p; rfl
theorem ss_fold (F : Fit Γ Φ G ec k C X W) {ns : List (Str × Pos)} {es : List Expr} {kt k2 : Nat} {pt p2 : Pos} (hl : ns.length = es.length) (hs : es.all noStar = true) (hn : swapNm C ns = true) (h2 : es.all (foldedForSure 8) = true) :
    swappedStores [.Tuple (ns.map fun p => .Name p.1 p.2) kt pt] (.Tuple es k2 p2) X.env = pure none := by
  have hb : X.env.blockKind = .function := by unfold PySem.Env.blockKind; rw [F.kind]; rfl
  unfold swapNm at hn
  have hn := and2 hn
  have hk : ∀ x, (X.env.kindOf x == some NameKind.local) = C.lc x := fun x => by show (X.env.scope.names.lookup x == _) = _; rw [F.sc]; rfl
  have hall : (ns.all fun p => X.env.kindOf p.1 == some NameKind.local && p.2.line == (ns.head?.map (·.2.line)).getD 0) = true := by simpa only [hk] using hn.2
  unfold swappedStores
  dsimp only
  rw [head_line, sw_names hall ?_, List.length_map, hn.1, hl, hb, noStar_any hs ?_, h2]
  · rw [← hl, List.length_map]
    simp
  · intro e he; cases e <;> first | rfl | cases he
  · intro x p; rfl
theorem ss_none (F : Fit Γ Φ G ec k C X W) {ns : List (Str × Pos)} {es : List Expr} {kt k2 : Nat} {pt p2 : Pos} (hs : es.all noStar = true)
    (hn : (!(ns.length == 2 || ns.length == 3) || ns.any (fun p => !(C.lc p.1) || !(p.2.line == (ns.head?.map (·.2.line)).getD 0))) = true) :
    swappedStores [.Tuple (ns.map fun p => .Name p.1 p.2) kt pt] (.Tuple es k2 p2) X.env = pure none := by
  have hk : ∀ x, (X.env.kindOf x == some .local) = C.lc x := fun x => by show (X.env.scope.names.lookup x == _) = _; rw [F.sc]; rfl
  unfold swappedStores
  dsimp only
  rw [head_line, List.length_map, noStar_any hs ?_]
  rotate_left
  · intro e he; cases e <;> first | rfl | cases he
  split
  · rfl
  · split
    · rfl
    · rename_i h1 _
      have h4 : (ns.length == 2 || ns.length == 3) = true := by
        cases q : (ns.length == 2 || ns.length == 3) with
        | true => rfl
        | false => rw [q] at h1; simp at h1
      rw [h4, Bool.not_true, Bool.false_or] at hn
      have hany : (ns.any fun p => !(X.env.kindOf p.1 == some NameKind.local) || !(p.2.line == (ns.head?.map (·.2.line)).getD 0)) = true := by simpa only [hk] using hn
      rw [if_pos]
      simp only [Bool.or_eq_true, bne_iff_ne, ne_eq]
      refine .inl fun z => ?_
      refine absurd z (Nat.ne_of_lt (sw_few hany ?_))
      intro x p; rfl
end
end Fw
namespace Fw
open PySem PySem.Spec L2
section
variable {Γ : Gm} {Φ : FEnv} {G : Hp → Prop} {ec : Nat → Addr} {k : Nat} {C : Cn} {X : Cx} {W : WX}
theorem atAll_len : ∀ {is : List Nat} {ns : List (Str × Pos)}, atAll C is ns = true → is.length = ns.length
  | [], [], _ => rfl
  | [], _ :: _, h => by cases h
  | _ :: _, [], h => by cases h
  | i :: is, (x, p) :: ns, h => by
    have h := and2 h
    exact congrArg (· + 1) (atAll_len h.2)
theorem Fit.lc (F : Fit Γ Φ G ec k C X W) {x : Str} (h : C.lc x = true) : X.env.scope.names.lookup x = some .local := by
  rw [F.sc]; exact beq_iff_eq.mp h
theorem sub_asg {x : Str} {p q : Pos} {b : Expr} {env : PySem.Env} (h : noSlice b = true) (v : Value) : assign (.Subscript (.Name x p) b q) env v = (do
      let ov ← holding [v] (eval (.Name x p) env)
      let iv ← holding [v, ov] (eval b env)
      standAt q
      holding [v, ov, iv] (setItem ov iv v)
      release [v, ov, iv] []) := by
  cases b <;> first | rfl | cases h
theorem swSole {t e : Expr} {l : Nat} {env : PySem.Env} (h : noComp e = true) : swapsWithSole [t] e l env = pure false := swNo h
theorem comp_of {a : IE} {e : Expr} (h : chkE Γ a C e = true) (hn : noComp e = false) : (∃ elt t it cond own, a = .comp elt t it cond own) ∧ ∃ x g s p, e = .ListComp x g s p := by
  cases a
  case comp elt t it cond own =>
    refine ⟨⟨_, _, _, _, _, rfl⟩, ?_⟩
    unfold chkE at h
    split at h
    · exact ⟨_, _, _, _, rfl⟩
    · cases h
  all_goals (unfold chkE at h; first | cases h | (split at h <;> first | cases h | cases hn))
theorem snd_setComp (F : Fit Γ Φ G ec k C X W) {elt cond : IE} {t : Tgt} {it : IT} {own : List Nat} {i : Nat} {y : Str} {py p sp : Pos} {x : Expr} {gs : List Comprehension} {scope : Scope}
    (h : chkE Γ (.comp elt t it cond own) C (.ListComp x gs scope p) = true) (hi : C.at i y = true) (hy : C.lc y = true) (hl : (py.line == p.line) = true) (hn : (scope.names.any fun (n, k) => n == y && (k == .local || k == .cell)) = false) (A : AS) :
    PS X (.Assign [.Name y py] (.ListComp x gs scope p) sp) (tS X.K ⟨A, G, ec⟩ W (sAsg (setD i) (den Φ (.comp elt t it cond own)))) := by
  unfold chkE at h
  split at h
  · rename_i x tg iter ifs scope p heq
    cases heq
    have h := and2 h
    have h1 := and2 h.1
    have h2 := and2 h1.1
    have h3 := and2 h2.1
    have h4 := and2 h3.1
    have h5 := and2 h4.1
    have h6 := and2 h5.1
    have bo := blkOk_of h6.1
    obtain rfl : own = (ownOf C.N scope).map (·.2) := beq_iff_eq.mp h6.2
    have hk := bo.kind
    rw [← F.N, ← F.sc] at bo
    have ht : ∀ (s : Shared) (H : Hp) (D : Addr) (cl : List (Str × Addr)) (fp : List Addr), PTs (X.blk s H scope (compEnvC scope cl D X.env) fp) ifs (fun σ H Q => ∃ A, tTs X.K ⟨A, G, ec⟩ (bif isHole cond then none else some (den Φ cond)) σ H Q) := fun s H D cl fp => by
      have h := h.2
      split at h
      · rw [h]; exact ⟨fun pins s σ H Q I ⟨A, q⟩ => (pts_nil).run pins s σ H Q I q⟩
      · have h := and2 h
        have h' := and2 h.1
        rw [Bool.not_eq_true' _ |>.mp h'.1]
        exact pts_one (pt_ex fun A => (snd_E cond (F.block hk s H D cl fp) h.2).t h'.2 A)
      · cases h
    show PS X _ (tS X.K ⟨A, G, ec⟩ W (sAsg (setD i) (dComp (denI Φ it) _ (dTgt t) _ (den Φ elt))))
    rw [← F.N]
    exact es_setComp F.g F.calm F.nd (F.at hi) (F.lc hy) (sw_true F.kind (F.lc hy) hl hn) (snd_I it F h4.2 A) bo (fun s H D cl fp => pg_ex fun A => snd_G (F.block hk s H D cl fp) t h2.2 A) ht (fun s H D cl fp => pe_ex fun A => (snd_E elt (F.block hk s H D cl fp) h1.2).ev A)
      (fun v => foldNo h5.2 v) (fun i hi => by rw [F.N]; exact List.contains_iff_mem.mp (List.all_eq_true.mp h3.2 i hi))
  · cases h
theorem swComp_no (F : Fit Γ Φ G ec k C X W) {g x : Expr} {gs : List Comprehension} {scope : Scope} {p : Pos} {l : Nat}
    (h : ∀ y py, g = .Name y py → ¬ (C.lc y = true ∧ (py.line == p.line) = true ∧ (scope.names.any fun (n, k) => n == y && (k == .local || k == .cell)) = false)) : swapsWithSole [g] (.ListComp x gs scope p) l X.env = pure false := by
  have hb : X.env.blockKind = .function := by unfold PySem.Env.blockKind; rw [F.kind]; rfl
  cases g with
  | Name y py =>
    have h := h y py rfl
    have hk : (X.env.kindOf y == some NameKind.local) = C.lc y := by show (X.env.scope.names.lookup y == _) = _; rw [F.sc]; rfl
    unfold swapsWithSole swapsWith
    dsimp only [Expr.pos]
    rw [hb, hk]
    have : ((ScopeKind.function == ScopeKind.function) && C.lc y && py.line == p.line && !(scope.names.any fun (n, k) => n == y && (k == .local || k == .cell))) = false := by
      cases h1 : C.lc y with
      | false => rfl
      | true =>
        cases h2 : (py.line == p.line) with
        | false => rfl
        | true =>
          cases h3 : (scope.names.any fun (n, k) => n == y && (k == .local || k == .cell)) with
          | true => rfl
          | false => exact absurd ⟨h1, h2, h3⟩ h
    exact congrArg pure this
  | _ => rfl
theorem snd_par (F : Fit Γ Φ G ec k C X W) {is : List Nat} {l : List IA} {ns : List (Str × Pos)} {ts es : List Expr} {kt k2 : Nat} {pt p2 p : Pos} (ha : chkA Γ l C es = true) (hts : nmsOf ts = some ns) (hlen : ts.length = es.length) (hat : atAll C is ns = true) (hnd : is.Nodup) (h100 : is.length ≤ 100)
    (h : (match swapNm C ns with
        | true => es.all (foldedForSure 8) || !(es.all (constantsAlone 8)) && (ns.map (·.1)).eraseDups.length == ns.length
        | false => !(ns.length == 2 || ns.length == 3) || ns.any (fun p => !(C.lc p.1) || !(p.2.line == (ns.head?.map (·.2.line)).getD 0))) = true) (A : AS) :
    PS X (.Assign [.Tuple ts kt pt] (.Tuple es k2 p2) p) (tS X.K ⟨A, G, ec⟩ W (sPar is (l.map (denA Φ)))) := by
  obtain ⟨k1, k2'⟩ := snd_A F l ha
  have hP : PA X es (tAs X.K ⟨A, G, ec⟩ W (l.map (denA Φ))) := as_step (κ := ⟨A, G, ec⟩) rfl k1 (chk_star k2')
  have hte := nms_eq hts
  have hl2 := atAll_len hat
  have hT : swappedStores [.Tuple ts kt pt] (.Tuple es k2 p2) X.env = pure none → PS X (.Assign [.Tuple ts kt pt] (.Tuple es k2 p2) p) (tS X.K ⟨A, G, ec⟩ W (sPar is (l.map (denA Φ)))) := fun hs => by
    obtain ⟨m1, m2, m3⟩ := nms_at F hts hat
    exact es_parT F.g hP (pg_tup F.calm m1 m2 m3) (Nat.le_trans h100 (by decide)) rfl hs rfl
  split at h
  · rename_i hsw
    have hl : ns.length = es.length := by rw [← hlen, hte, List.length_map]
    by_cases hf : es.all (foldedForSure 8) = true
    · exact hT (by rw [hte]; exact ss_fold F hl k2' hsw hf)
    have hf : es.all (foldedForSure 8) = false := by simpa using hf
    rw [hf, Bool.false_or] at h
    have h := and2 h
    have hss := ss_some (kt := kt) (k2 := k2) (pt := pt) (p2 := p2) F hl k2' hsw (by simpa using h.1) hf (beq_iff_eq.mp h.2)
    unfold swapNm at hsw
    have hsw := and2 hsw
    have hlc : ∀ q ∈ ns, C.lc q.1 = true := fun q hq => (and2 (List.all_eq_true.mp hsw.2 q hq)).1
    clear hT
    subst hte
    match ns, es, is, hl, hl2, hat, hnd, hss, hsw.1, hlc, hP with
    | [(x, px), (y, py)], [a, b], [i, j], hl, hl2, hat, hnd, hss, _, hlc, hP =>
      have a1 := and2 hat
      have a2 := and2 a1.2
      exact es_par F.calm F.nd (F.at (and2 a1.1).1) (F.at (and2 a2.1).1) (by intro z; subst z; simp at hnd) (F.lc (hlc _ (by simp))) (F.lc (hlc (y, py) (by simp))) hP hss rfl
    | [(x, px), (y, py), (z, pz)], [a, b, c], [i, j, m], hl, hl2, hat, hnd, hss, _, hlc, hP =>
      have a1 := and2 hat
      have a2 := and2 a1.2
      have a3 := and2 a2.2
      exact es_par3 F.calm F.nd (F.at (and2 a1.1).1) (F.at (and2 a2.1).1) (F.at (and2 a3.1).1) (by intro z; subst z; simp at hnd) (by intro z; subst z; simp at hnd) (by intro z; subst z; simp at hnd) (F.lc (hlc _ (by simp))) (F.lc (hlc (y, py) (by simp))) (F.lc (hlc (z, pz) (by simp))) hP hss rfl
    | [], _, _, _, _, _, _, _, h4, _, _ => cases h4
    | [_], _, _, _, _, _, _, _, h4, _, _ => cases h4
    | _ :: _ :: _ :: _ :: _, _, _, _, _, _, _, _, h4, _, _ => simp at h4
  · exact hT (by rw [hte]; exact ss_none F k2' h)
mutual
theorem snd_S (F : Fit Γ Φ G ec k C X W) (po : PassesOwn (model X.prog X.w) X.A X.env X.xe) (n : Nat) : ∀ (s : IS) {st : Stmt}, chkS Γ C s st = true → ∀ A, PS X st (tS X.K ⟨A, G, ec⟩ W (denS Φ n s))
  | .pass, st, h, A => by
    unfold chkS at h
    split at h
    · exact es_pass
    · cases h
  | .brk, st, h, A => by
    unfold chkS at h
    split at h
    · exact es_break
    · cases h
  | .cont, st, h, A => by
    unfold chkS at h
    split at h
    · exact es_continue
    · cases h
  | .expr a, st, h, A => by
    unfold chkS at h
    split at h
    · have h := and2 h
      exact es_expr ((snd_E a F h.2).ev A) (swNo h.1)
    · cases h
  | .ret a, st, h, A => by
    unfold chkS at h
    split at h
    · exact es_ret ((snd_E a F h).ev A)
    · cases h
  | .retN, st, h, A => by
    unfold chkS at h
    split at h
    · exact es_retN
    · cases h
  | .retF f, st, h, A => by
    unfold chkS at h
    split at h
    · exact es_retF (snd_F F f h A)
    · cases h
  | .asg t a, st, h, A => by
    unfold chkS at h
    split at h
    · rename_i g e p
      have h := and2 h
      have h1 := and2 h.1
      have h2 := and2 h1.1
      have hg := snd_G F t h2.2 A
      have ha := snd_E a F h1.2
      have hns := stNo (env := X.env) (g := g) (e := e) (by simpa [Bool.or_eq_true] using h.2) (chkG_noList h2.2)
      have hone : (assignEach [g] X.env).map (·.2) = [assign g X.env] := by rw [asg_cons h2.1]; rfl
      by_cases hcmp : noComp e = true
      · exact es_asg (ha.ev A) hg (swSole hcmp) hns hone
      · obtain ⟨⟨elt, t', it, cond, own, rfl⟩, x, gs, s, q, rfl⟩ := comp_of h1.2 (by simpa using hcmp)
        by_cases hc : ∃ y py, g = .Name y py ∧ C.lc y = true ∧ (py.line == q.line) = true ∧ (s.names.any fun (n, k) => n == y && (k == .local || k == .cell)) = false
        · obtain ⟨y, py, rfl, c1, c2, c3⟩ := hc
          have h22 := h2.2
          cases t with
          | tup ts => unfold chkG at h22; cases h22
          | name i =>
            unfold chkG at h22
            exact snd_setComp F h1.2 (and2 h22).1 c1 c2 c3 A
        · exact es_asg (ha.ev A) hg (swComp_no F fun y py e z => hc ⟨y, py, e, z.1, z.2.1, z.2.2⟩) hns hone
    · cases h
  | .setF i f, st, h, A => by
    unfold chkS at h
    split at h
    · have h := and2 h
      have h1 := and2 h.1
      have h2 := and2 h1.1
      obtain ⟨l1, l2⟩ := F.loc h2.2
      exact es_setF F.nd (F.at h2.1) l1 (snd_F F f h.2 A) (swNo h1.2) l2
    · cases h
  | .par is l, st, h, A => by
    unfold chkS at h
    split at h
    · rename_i ts kt pt es k2 p2 p
      have h := and2 h
      have hP := h.1
      have h := h.2
      split at h
      · cases h
      · rename_i ns hn
        have h := and2 h
        have h1 := and2 h.1
        have h2 := and2 h1.1
        have h3 := and2 h2.1
        exact snd_par F hP hn (beq_iff_eq.mp h3.1) h3.2 (of_decide_eq_true h2.2) (of_decide_eq_true h1.2) h.2 A
    · cases h
  | .app i a, st, h, A => by
    unfold chkS at h
    split at h
    · rename_i x q m ap e p sp
      have h := and2 h
      have h1 := and2 h.1
      have h2 := and2 h1.1
      have h3 := and2 h2.1
      have h4 := and2 h3.1
      obtain ⟨g1, g2⟩ := F.vis h4.2
      obtain rfl : m = ("append" : Str) := beq_iff_eq.mp h3.2
      exact es_app F.g (F.at h4.1) g1 (nmOk_1 g2) (nmOk_2 g2) ((snd_E a F h.2).ev A) h2.2 (star_cons h1.2)
    · cases h
  | .sub i k a, st, h, A => by
    unfold chkS at h
    split at h
    · have h := and2 h
      have h1 := and2 h.1
      have h2 := and2 h1.1
      have h3 := and2 h2.1
      have h4 := and2 h3.1
      obtain ⟨g1, g2⟩ := F.vis h4.2
      exact es_sub F.g (F.at h4.1) g1 (nmOk_1 g2) (nmOk_2 g2) ((snd_E k F h2.2).ev A) ((snd_E a F h.2).ev A) (sub_asg h3.2) (swSole h1.2) rfl rfl
    · cases h
  | .ifs c a b, st, h, A => by
    unfold chkS at h
    split at h
    · have h := and2 h
      have h1 := and2 h.1
      have h2 := and2 h1.1
      exact es_if ((snd_E c F h2.2).t h2.1 A) (snd_Ss F po n a h1.2 A) (snd_Ss F po n b h.2 A)
    · cases h
  | .for_ t it body, st, h, A => by
    unfold chkS at h
    split at h
    · have h := and2 h
      have h1 := and2 h.1
      have h2 := and2 h1.1
      exact es_for po F.calm (snd_I it F h2.2 A) (snd_G F t h1.2 A) (snd_Ss F po n body h.2 A) (fun v => foldNo h2.1 v)
    · cases h
  | .while_ c body, st, h, A => by
    unfold chkS at h
    split at h
    · have h := and2 h
      have h1 := and2 h.1
      exact es_while po ((snd_E c F h1.2).t h1.1 A) (snd_Ss F po n body h.2 A)
    · cases h
  | .raise c, st, h, A => by
    unfold chkS at h
    split at h
    · have h := and2 h
      obtain ⟨g1, g2⟩ := F.gl h.1
      exact es_raise (κ := ⟨A, G, ec⟩) F.calm F.tk (F.excs _ c (beq_iff_eq.mp h.2)) g1 (nmOk_1 g2)
    · cases h
theorem snd_Ss (F : Fit Γ Φ G ec k C X W) (po : PassesOwn (model X.prog X.w) X.A X.env X.xe) (n : Nat) : ∀ (ss : List IS) {sts : List Stmt}, chkSs Γ C ss sts = true → ∀ A, PSs X sts (tS X.K ⟨A, G, ec⟩ W (denSs Φ n ss))
  | [], sts, h, A => by
    unfold chkSs at h
    split at h
    · exact es_nil
    · cases h
  | s :: r, sts, h, A => by
    unfold chkSs at h
    split at h
    · have h := and2 h
      exact es_cons (snd_S F po n s h.1 A) (snd_Ss F po n r h.2 A)
    · cases h
end
end
end Fw
namespace Fw
open PySem PySem.Spec L2

/-! ### the module: its defs are worth what is told, at level k -/
structure ExcM (K : PySem.W.Frag) (mg : Str → Option Value) (x : Str) (C : Addr) : Prop where
  g : mg x = some (.ref C)
  k : PySem.W.keepIn K (.ref C) = true
  x : PySem.W.excIn K C [.type "ValueError", .type "Exception", .type "BaseException", .type "object"] "ValueError.__new__" = true
  b : PySem.W.subIn K (.ref C) (.type "BaseException") = some true
  t : PySem.W.typeIn K (.ref C) = some (.type "type")
/-- where a def stands -/
structure FnM (K : PySem.W.Frag) (mg : Str → Option Value) (x : Str) (n : Nat) (a : Addr) (fd : FuncData) (ps : List Str) : Prop where
  g : mg x = some (.ref a)
  k : PySem.W.keepIn K (.ref a) = true
  b : Binds K fd ps []
  n : ps.length = n
/-- what does not change from def to def -/
structure Base (Γ : Gm) (G : Hp → Prop) (ec : Nat → Addr) (K : PySem.W.Frag) (mg : Str → Option Value) : Prop where
  g : GOk G
  excs : ∀ x c, Γ.excs.lookup x = some c → ExcM K mg x (ec c)
  cst : ∀ x d, Γ.cst.lookup x = some d → ∃ v u, mg x = some u ∧ scV d = some v ∧ RelV v u
  blt : ∀ x, Γ.blt.contains x = true → mg x = none
structure Md (Γ : Gm) (Φ : FEnv) (G : Hp → Prop) (ec : Nat → Addr) (P : Program) (w : World) (K : PySem.W.Frag) (mg : Str → Option Value) (base : Heap) (k : Nat) : Prop where
  B : Base Γ G ec K mg
  fns : ∀ x f n, Γ.fns.lookup x = some (f, n) → ∃ a fd ps, FnM K mg x n a fd ps ∧ FnOk P w K mg base (L2N.CX P w) k a fd ps (spOf K G ec ps.length (Φ.fn f))
def FEnv.set (Φ : FEnv) (f : Nat) (F : FnDen) : FEnv := { Φ with fn := fun g => if g = f then F else Φ.fn g }
@[simp] theorem FEnv.set_same {Φ : FEnv} {f : Nat} {F : FnDen} : (Φ.set f F).fn f = F := if_pos rfl
@[simp] theorem FEnv.set_ne {Φ : FEnv} {f g : Nat} {F : FnDen} (h : g ≠ f) : (Φ.set f F).fn g = Φ.fn g := if_neg h
section
variable {Γ : Gm} {Φ : FEnv} {G : Hp → Prop} {ec : Nat → Addr} {P : Program} {w : World} {K : PySem.W.Frag} {mg : Str → Option Value} {base : Heap} {k : Nat}
theorem fn_bad {a : Addr} {fd : FuncData} {ps : List Str} {n : Nat} {F : FnDen} (hF : ∀ args, F args = .bad) : FnOk P w K mg base (L2N.CX P w) k a fd ps (spOf K G ec n F) := by
  have no : ∀ vs H Q E, spOf K G ec n F vs H Q E → False := fun vs H Q E ⟨_, A, args, _, _, h⟩ => by rw [hF] at h; exact h
  exact ⟨fun vs H Q E h => (no _ _ _ _ h).elim, fun A outer s H args us vs Q E _ _ _ _ h => (no _ _ _ _ h).elim⟩
def badE : FnDen := fun _ => .bad
/-- at the start none is worth anything -/
theorem Md.none (B : Base Γ G ec K mg) (h : ∀ x f n, Γ.fns.lookup x = some (f, n) → ∃ a fd ps, FnM K mg x n a fd ps) : Md Γ { fn := fun _ => badE, nm := Φ.nm } G ec P w K mg base 0 :=
  ⟨B, fun x f n q => let ⟨a, fd, ps, m⟩ := h x f n q; ⟨a, fd, ps, m, fn_bad fun _ => rfl⟩⟩
theorem Md.mono (M : Md Γ Φ G ec P w K mg base k) {j : Nat} (h : k ≤ j) : Md Γ Φ G ec P w K mg base j :=
  ⟨M.B, fun x f n q => let ⟨a, fd, ps, m, o⟩ := M.fns x f n q; ⟨a, fd, ps, m, o.mono h⟩⟩
/-- a def's promise proved by other means -/
theorem Md.put (M : Md Γ Φ G ec P w K mg base k) {x : Str} {f n : Nat} {a : Addr} {fd : FuncData} {ps : List Str} {F : FnDen} (hu : Γ.fns.all (fun p => p.2.1 != f || p.1 == x) = true) (m : FnM K mg x n a fd ps) (hn : Γ.fns.lookup x = some (f, n))
    (o : FnOk P w K mg base (L2N.CX P w) (k + 1) a fd ps (spOf K G ec ps.length F)) : Md Γ (Φ.set f F) G ec P w K mg base (k + 1) := by
  refine ⟨M.B, fun y g j q => ?_⟩
  by_cases h : g = f
  · subst h
    have hy := List.all_eq_true.mp hu _ (mem_of_lookup q)
    obtain rfl : y = x := by simpa using hy
    rw [hn] at q; cases q
    exact ⟨a, fd, ps, m, by rw [FEnv.set_same]; exact o⟩
  · obtain ⟨a, fd, ps, m, o⟩ := M.fns y g j q
    exact ⟨a, fd, ps, m, by rw [FEnv.set_ne h]; exact o.mono (Nat.le_succ k)⟩
/-- the checker's context of a def -/
abbrev cnOf (N : List Str) (st : Stmt) : Cn := { N := N, sc := defScope st, blk := Option.none, att := false }
/-- the same for a def that hands lambdas on -/
abbrev cnOfA (N : List Str) (st : Stmt) : Cn := { N := N, sc := defScope st, blk := Option.none, att := true }
theorem Md.fit (M : Md Γ Φ G ec P w K mg base k) {X : Cx} {N : List Str} {st : Stmt} {W : WX} {qd : Str} {cd : Value} (hP : X.prog = P) (hw : X.w = w) (hK : X.K = K) (hmg : X.mg = mg) (hba : X.base = base) (at' : AtDef X N (defScope st) k W qd cd) (hN : N.Nodup) (hk : (defScope st).kind = .function) : Fit Γ Φ G ec k (cnOf N st) X W := by
  subst hP hw hK hmg hba
  refine { N := at'.N, nd := by rw [at'.N]; exact hN, sc := at'.sc, kind := by rw [at'.sc]; exact hk, calm := at'.calm, fn := fun x _ => at'.fn x, g := M.B.g, room := at'.room, tk := at'.tk, fns := fun x f n h => ?_, excs := fun x c h => ?_, cst := M.B.cst, blt := M.B.blt, att := fun z => nomatch z }
  · obtain ⟨a, fd, ps, m, o⟩ := M.fns x f n h
    exact ⟨a, fd, ps, m.n, o, m.g, m.k, m.b⟩
  · have e := M.B.excs x c h
    exact ⟨e.g, e.k, e.x, e.b, e.t⟩
/-- THE RULE: a def whose text is ir, and whose meaning is F -/
theorem Md.add (M : Md Γ Φ G ec P w K mg base k) {x qual : Str} {st : Stmt} {f n : Nat} {a : Addr} {fd : FuncData} {N ps : List Str} {F : FnDen} {ir : List IS} (hu : Γ.fns.all (fun p => p.2.1 != f || p.1 == x) = true) (m : FnM K mg x n a fd ps) (hn : Γ.fns.lookup x = some (f, n))
    (Fu : Fun K x qual st a fd) (S : FnScope N ps (defScope st)) (hc : chkSs Γ (cnOf N st) ir (defBody st) = true) (hF : ∀ args, F args ≠ .bad → ∃ j, funOf N.length ps.length (denSs Φ j ir) args = F args) : Md Γ (Φ.set f F) G ec P w K mg base (k + 1) :=
  M.put hu m hn (fn_ok Fu S hF fun X A W j hP hw hK hmg hba at' => by
    have Ft := M.fit hP hw hK hmg hba at' S.nd S.kind
    have := snd_Ss Ft at'.po j ir hc A
    rw [hK] at this
    exact this)
end
end Fw
namespace Fw
open PySem PySem.Spec L2

/-! ### reckoning with the meaning: rules for simp -/
section
variable {Φ : FEnv} {e e' : En} {n : Nat}
@[simp] theorem q_cst {d : D} : den Φ (.cst d) e = .ok (.imm d) e := by unfold den; rfl
theorem dVar_d {i : Nat} {x : D} (h : e[i]? = some (some (.d x))) : dVar i e = .ok (.imm x) e := by unfold dVar; rw [h]
theorem dPeek_s {i : Nat} {s : SV} (h : e[i]? = some (some s)) : dPeek i e = .ok (.slot i) e := by unfold dPeek; rw [h]
@[simp] theorem q_var {i : Nat} : den Φ (.var i) e = match e[i]? with
  | some (some (.d x)) => .ok (.imm x) e
  | some (some (.own false xs)) => .ok (.imm (.list xs)) (e.set i (some (.d (.list xs))))
  | _ => .bad := by unfold den; rfl
@[simp] theorem q_peek {i : Nat} : den Φ (.peek i) e = match e[i]? with
  | some (some _) => .ok (.slot i) e
  | _ => .bad := by unfold den; rfl
@[simp] theorem q_bin {o : Operator} {a b : IE} : den Φ (.bin o a b) e = (den Φ a e).bind fun x e1 => (den Φ b e1).bind fun y e2 => rdK x e2 fun d => rdK y e2 fun d' => okD (gBin o d d') e2 := by rw [den]; rfl
@[simp] theorem q_neg {a : IE} : den Φ (.neg a) e = (den Φ a e).bind fun r e1 => rdK r e1 fun d => okD (negD d) e1 := by rw [den]; rfl
@[simp] theorem q_cmp {o : CmpOp} {a b : IE} : den Φ (.cmp o a b) e = (den Φ a e).bind fun x e1 => (den Φ b e1).bind fun y e2 => rdK x e2 fun d => rdK y e2 fun d' => okD (gCmp o d d') e2 := by rw [den]; rfl
@[simp] theorem q_chain {o o' : CmpOp} {a b c : IE} : den Φ (.chain o o' a b c) e = (den Φ a e).bind fun x e1 => (den Φ b e1).bind fun y e2 => rdK x e2 fun d => rdK y e2 fun d' => optK (gCmp o d d') e2 fun z => match z with
  | .bool true => (den Φ c e2).bind fun w e3 => rdK y e3 fun d2 => rdK w e3 fun d3 => okD (gCmp o' d2 d3) e3
  | .bool false => .ok (.imm (.bool false)) e2
  | _ => .bad := by rw [den]; rfl
@[simp] theorem q_not {a : IE} : den Φ (.not a) e = (den Φ a e).bind fun r e1 => truK r e1 fun b => .ok (.imm (.bool (!b))) e1 := by rw [den]; rfl
@[simp] theorem q_and {a b : IE} : den Φ (.and a b) e = (den Φ a e).bind fun r e1 => truK r e1 fun t => bif t then den Φ b e1 else (match r with
  | .imm d => .ok (.imm d) e1
  | .slot _ => .bad) := by
  rw [den]; unfold dBool
  refine congrArg _ (funext fun r => funext fun e1 => congrArg _ (funext fun t => ?_))
  cases t <;> rfl
@[simp] theorem q_or {a b : IE} : den Φ (.or a b) e = (den Φ a e).bind fun r e1 => truK r e1 fun t => bif t then (match r with
  | .imm d => .ok (.imm d) e1
  | .slot _ => .bad) else den Φ b e1 := by
  rw [den]; unfold dBool
  refine congrArg _ (funext fun r => funext fun e1 => congrArg _ (funext fun t => ?_))
  cases t <;> rfl
@[simp] theorem q_ite {c a b : IE} : den Φ (.ite c a b) e = (den Φ c e).bind fun r e1 => truK r e1 fun t => bif t then den Φ a e1 else den Φ b e1 := by rw [den]; rfl
@[simp] theorem q_tup {es : List IE} : den Φ (.tup es) e = (denL Φ es e).bind fun rs e1 => immK rs fun ds => if ds.length ≤ sizeLine then .ok (.imm (.tuple ds)) e1 else .bad := by rw [den]; rfl
@[simp] theorem q_lst {es : List IE} : den Φ (.lst es) e = (denL Φ es e).bind fun rs e1 => immK rs fun ds => if ds.length ≤ sizeLine then .ok (.imm (.list ds)) e1 else .bad := by rw [den]; rfl
@[simp] theorem q_nil : denL Φ [] e = .ok [] e := by rw [denL]; rfl
@[simp] theorem q_cons {a : IE} {es : List IE} : denL Φ (a :: es) e = (den Φ a e).bind fun r e1 => (denL Φ es e1).bind fun rs e2 => .ok (r :: rs) e2 := by rw [denL]; rfl
@[simp] theorem q_ix {a i : IE} : den Φ (.ix a i) e = (den Φ a e).bind fun x e1 => (den Φ i e1).bind fun y e2 => rdK x e2 fun d => rdK y e2 fun d' => okD (ixD d d') e2 := by rw [den]; rfl
@[simp] theorem q_sl {a lo hi : IE} : den Φ (.sl a lo hi) e = (den Φ a e).bind fun r e1 => (dPart (bif isHole lo then none else some (den Φ lo)) e1).bind fun l e2 => (dPart (bif isHole hi then none else some (den Φ hi)) e2).bind fun h e3 => rdK r e3 fun d => okD (slD d l h) e3 := by rw [den]; rfl
@[simp] theorem q_partN : dPart none e = .ok none e := rfl
@[simp] theorem q_partS {f : En → EOut Ref} : dPart (some f) e = (f e).bind fun r e1 => rdK r e1 fun d => match d with
    | .int i => .ok (some i) e1
    | _ => .bad := rfl
@[simp] theorem q_rev {a : IE} : den Φ (.rev a) e = (den Φ a e).bind fun r e1 => rdK r e1 fun d => okD (revD d) e1 := by rw [den]; rfl
@[simp] theorem q_call {f m : Nat} {es : List IE} : den Φ (.call f m es) e = (dCallR m (Φ.fn f) (denL Φ es) e).bind fun r e1 => .ok (.imm (rvD r)) e1 := by rw [den]; rfl
@[simp] theorem q_callR {m : Nat} {F : FnDen} {fl : En → EOut (List Ref)} : dCallR m F fl e = (fl e).bind fun rs e1 => if rs.length = m then dRun F rs e1 else .bad := rfl
@[simp] theorem q_call0 {f : Nat} : den Φ (.call0 f) e = match Φ.fn f [] with
  | .ret r _ => .ok (.imm (rvD r)) e
  | _ => .bad := by rw [den]; rfl
@[simp] theorem q_prim {p : Prim} {es : List IE} : den Φ (.prim p es) e = (denL Φ es e).bind fun rs e1 => rdLK rs e1 fun ds => okD (gPrim p ds) e1 := by rw [den]; rfl
@[simp] theorem q_isinst {T : String} {a : IE} : den Φ (.isinst T a) e = (den Φ a e).bind fun r e1 => rdK r e1 fun d => okD (some (.bool (isT T d))) e1 := by rw [den]; rfl
@[simp] theorem q_comp {elt : IE} {t : Tgt} {it : IT} {cond : IE} {own : List Nat} : den Φ (.comp elt t it cond own) e = dComp (denI Φ it) own (dTgt t) (bif isHole cond then none else some (den Φ cond)) (den Φ elt) e := by rw [den]
@[simp] theorem q_pop {i : Nat} : den Φ (.pop i) e = dPop i e := by rw [den]
@[simp] theorem q_att {m : Nat} {a : IE} : den Φ (.att m a) e = dAtt Φ.nm m (den Φ a) e := by rw [den]
@[simp] theorem q_seq {a : IE} : denI Φ (.seq a) e = (den Φ a e).bind fun r e1 => match r with
  | .imm d => match itemsD d with
    | some xs => .ok xs e1
    | none => .bad
  | .slot _ => .bad := by rw [denI]; rfl
@[simp] theorem q_rng1 {a : IE} : denI Φ (.rng1 a) e = (den Φ a e).bind fun r e1 => rdK r e1 fun d => match d with
  | .int hi => if -(2 ^ 62) ≤ hi ∧ hi < 2 ^ 62 then .ok (rangeD 0 hi) e1 else .bad
  | _ => .bad := by rw [denI]; rfl
@[simp] theorem q_rng2 {a b : IE} : denI Φ (.rng2 a b) e = (den Φ a e).bind fun r e1 => (den Φ b e1).bind fun r2 e2 => rdK r e2 fun d => rdK r2 e2 fun d2 => match d, d2 with
  | .int lo, .int hi => if -(2 ^ 62) ≤ lo ∧ lo < 2 ^ 62 ∧ -(2 ^ 62) ≤ hi ∧ hi < 2 ^ 62 then .ok (rangeD lo hi) e2 else .bad
  | _, _ => .bad := by rw [denI]; rfl
@[simp] theorem q_enum {a : IE} : denI Φ (.enum a) e = iEnum (den Φ a) e := by rw [denI]
@[simp] theorem q_zip {a b : IE} : denI Φ (.zip a b) e = iZip (den Φ a) (den Φ b) e := by rw [denI]
@[simp] theorem q_Fl {es : List IE} : denF Φ (.lst es) e = (denL Φ es e).bind fun rs e1 => immK rs fun ds => if ds.length ≤ sizeLine then .ok ds e1 else .bad := rfl
@[simp] theorem q_Fc {f m : Nat} {es : List IE} : denF Φ (.call f m es) e = (dCallR m (Φ.fn f) (denL Φ es) e).bind fun r e1 => match r with
  | .own xs => .ok xs e1
  | .d _ => .bad := rfl
@[simp] theorem q_rdl : rdLK ([] : List Ref) e (k : List D → EOut Ref) = k [] := rfl
@[simp] theorem q_dName {i : Nat} : dTgt (.name i) = setD i := by unfold dTgt; rfl
@[simp] theorem q_dTup {ts : List Tgt} : dTgt (.tup ts) = bTup ts.length (dTgts ts) := by rw [dTgt]
@[simp] theorem q_dTs0 : dTgts [] = bNil := by rw [dTgts]
@[simp] theorem q_dTs1 {t : Tgt} {ts : List Tgt} : dTgts (t :: ts) = bCons (dTgt t) (dTgts ts) := by rw [dTgts]
/-! statements -/
@[simp] theorem q_s0 : denSs Φ n [] e = .nx e := by rw [denSs]; rfl
@[simp] theorem q_s1 {s : IS} {ss : List IS} : denSs Φ n (s :: ss) e = (denS Φ n s e).bind (denSs Φ n ss) := by rw [denSs]; rfl
@[simp] theorem q_pass : denS Φ n .pass e = .nx e := by rw [denS]; rfl
@[simp] theorem q_brk : denS Φ n .brk e = .bk e := by rw [denS]
@[simp] theorem q_cont : denS Φ n .cont e = .ct e := by rw [denS]
@[simp] theorem q_expr {a : IE} : denS Φ n (.expr a) e = (den Φ a e).then fun _ e1 => .nx e1 := by rw [denS]; rfl
@[simp] theorem q_ret {a : IE} : denS Φ n (.ret a) e = (den Φ a e).then fun r e1 => immS r fun d => .rt (.d d) e1 := by rw [denS]; rfl
@[simp] theorem q_retN : denS Φ n .retN e = .rt (.d .none) e := by rw [denS]; rfl
@[simp] theorem q_retF {f : IF} : denS Φ n (.retF f) e = (denF Φ f e).then fun xs e1 => .rt (.own xs) e1 := by rw [denS]; rfl
@[simp] theorem q_asg {t : Tgt} {a : IE} : denS Φ n (.asg t a) e = (den Φ a e).then fun r e1 => immS r fun d => optS (dTgt t d e1) .nx := by rw [denS]; rfl
@[simp] theorem q_setF {i : Nat} {f : IF} : denS Φ n (.setF i f) e = (denF Φ f e).then fun xs e1 => optS (setOwn i xs e1) .nx := by rw [denS]; rfl
@[simp] theorem q_par {is : List Nat} {l : List IA} : denS Φ n (.par is l) e = (dAs (l.map (denA Φ)) e).then fun ws e1 => optS (setWs is ws e1) .nx := by rw [denS]; rfl
@[simp] theorem q_dA1 {a : IE} : denA Φ (.v a) = .v (den Φ a) := rfl
@[simp] theorem q_dA2 {a : IF} : denA Φ (.o a) = .o (denF Φ a) := rfl
@[simp] theorem q_dAs0 : dAs [] e = .ok [] e := rfl
@[simp] theorem q_dAs1 {f : En → EOut Ref} {r : List AK} : dAs (.v f :: r) e = (f e).bind fun x e1 => match x with
    | .imm d => (dAs r e1).bind fun ws e2 => .ok (.d d :: ws) e2
    | .slot _ => .bad := rfl
@[simp] theorem q_dAs2 {f : En → EOut (List D)} {r : List AK} : dAs (.o f :: r) e = (f e).bind fun xs e1 => (dAs r e1).bind fun ws e2 => .ok (.fr xs :: ws) e2 := rfl
@[simp] theorem q_ws0 : setWs [] [] e = some e := rfl
@[simp] theorem q_ws1 {i : Nat} {is : List Nat} {x : D} {ws : List WV} : setWs (i :: is) (.d x :: ws) e = (setD i x e).bind (setWs is ws) := rfl
@[simp] theorem q_ws2 {i : Nat} {is : List Nat} {x : List D} {ws : List WV} : setWs (i :: is) (.fr x :: ws) e = (setOwn i x e).bind (setWs is ws) := rfl
@[simp] theorem q_app {i : Nat} {a : IE} : denS Φ n (.app i a) e = if isOwn e i = true then (den Φ a e).then fun r e1 => immS r fun d => ownS e1 i (appD d) else .bad := by rw [denS]; rfl
@[simp] theorem q_sub {i : Nat} {k a : IE} : denS Φ n (.sub i k a) e = (den Φ a e).then fun r e1 => immS r fun d => if isOwn e1 i = true then (den Φ k e1).then fun ri e2 => (match ri with
  | .imm (.int k) => ownS e2 i (setAtD k d)
  | _ => .bad) else .bad := by rw [denS]; rfl
@[simp] theorem q_ifs {c : IE} {a b : List IS} : denS Φ n (.ifs c a b) e = (den Φ c e).then fun r e1 => truS r e1 fun t => bif t then denSs Φ n a e1 else denSs Φ n b e1 := by rw [denS]; rfl
@[simp] theorem q_for {t : Tgt} {it : IT} {body : List IS} : denS Φ n (.for_ t it body) e = (denI Φ it e).then fun ds e1 => forL (dTgt t) (denSs Φ n body) ds e1 := by rw [denS]; rfl
@[simp] theorem q_while {c : IE} {body : List IS} : denS Φ n (.while_ c body) e = whileL (den Φ c) (denSs Φ n body) n e := by rw [denS]
@[simp] theorem q_raise {c : Nat} : denS Φ n (.raise c) e = .exc c e := by rw [denS]; rfl
/-! pieces -/
@[simp] theorem q_imms0 : imms [] = some [] := rfl
@[simp] theorem q_imms1 {d : D} {r : List Ref} : imms (.imm d :: r) = (imms r).map (d :: ·) := rfl
theorem q_immK {β : Type} {rs : List Ref} {k : List D → EOut β} {ds : List D} (h : imms rs = some ds) : immK rs k = k ds := by unfold immK; rw [h]
@[simp] theorem q_immK1 {β : Type} {k : List D → EOut β} : immK [] k = k [] := rfl
@[simp] theorem q_immK2 {β : Type} {k : List D → EOut β} {d : D} {r : List Ref} : immK (.imm d :: r) k = immK r fun ds => k (d :: ds) := by
  unfold immK; rw [q_imms1]; cases imms r <;> rfl
@[simp] theorem q_rdLK1 {β : Type} {k : List D → EOut β} : rdLK [] e k = k [] := rfl
@[simp] theorem q_rdLK2 {β : Type} {k : List D → EOut β} {x : Ref} {r : List Ref} : rdLK (x :: r) e k = rdK x e fun d => rdLK r e fun ds => k (d :: ds) := by
  unfold rdLK rdK
  rw [rdL]
  cases x.rd e with
  | none => rfl
  | some d =>
    show (match ((rdL e r).map (d :: ·)) with | some ds => k ds | none => .bad) = _
    cases rdL e r <;> rfl
@[simp] theorem q_rdKs {β : Type} {i : Nat} {k : D → EOut β} : rdK (.slot i) e k = match e[i]? with
  | some (some s) => k (svD s)
  | _ => .bad := by
  unfold rdK Ref.rd
  dsimp only
  cases e[i]? with
  | none => rfl
  | some o => cases o <;> rfl
@[simp] theorem q_svD1 {x : D} : svD (.d x) = x := rfl
@[simp] theorem q_svD2 {p : Bool} {x : List D} : svD (.own p x) = .list x := rfl
@[simp] theorem q_truK {β : Type} {d : D} {k : Bool → EOut β} : truK (.imm d) e k = match truthD d with
  | some b => k b
  | none => .bad := rfl
@[simp] theorem q_truS {d : D} {k : Bool → SOut} : truS (.imm d) e k = match truthD d with
  | some b => k b
  | none => .bad := rfl
@[simp] theorem q_tru1 {b : Bool} : truthD (.bool b) = some b := rfl
@[simp] theorem q_hole : isHole .hole = true := rfl
@[simp] theorem q_h_cst {d : D} : isHole (.cst d) = false := rfl
@[simp] theorem q_h_var {i : Nat} : isHole (.var i) = false := rfl
@[simp] theorem q_h_peek {i : Nat} : isHole (.peek i) = false := rfl
@[simp] theorem q_h_bin {o : Operator} {a b : IE} : isHole (.bin o a b) = false := rfl
@[simp] theorem q_h_neg {a : IE} : isHole (.neg a) = false := rfl
@[simp] theorem q_h_cmp {o : CmpOp} {a b : IE} : isHole (.cmp o a b) = false := rfl
@[simp] theorem q_h_chain {o o2 : CmpOp} {a b c : IE} : isHole (.chain o o2 a b c) = false := rfl
@[simp] theorem q_h_not {a : IE} : isHole (.not a) = false := rfl
@[simp] theorem q_h_and {a b : IE} : isHole (.and a b) = false := rfl
@[simp] theorem q_h_or {a b : IE} : isHole (.or a b) = false := rfl
@[simp] theorem q_h_ite {a b c : IE} : isHole (.ite a b c) = false := rfl
@[simp] theorem q_h_tup {es : List IE} : isHole (.tup es) = false := rfl
@[simp] theorem q_h_lst {es : List IE} : isHole (.lst es) = false := rfl
@[simp] theorem q_h_ix {a b : IE} : isHole (.ix a b) = false := rfl
@[simp] theorem q_h_sl {a b c : IE} : isHole (.sl a b c) = false := rfl
@[simp] theorem q_h_rev {a : IE} : isHole (.rev a) = false := rfl
@[simp] theorem q_h_call {f m : Nat} {es : List IE} : isHole (.call f m es) = false := rfl
@[simp] theorem q_h_call0 {f : Nat} : isHole (.call0 f) = false := rfl
@[simp] theorem q_h_prim {p : Prim} {es : List IE} : isHole (.prim p es) = false := rfl
@[simp] theorem q_h_isinst {T : String} {a : IE} : isHole (.isinst T a) = false := rfl
@[simp] theorem q_h_comp {a c : IE} {t : Tgt} {it : IT} {o : List Nat} : isHole (.comp a t it c o) = false := rfl
@[simp] theorem q_h_pop {i : Nat} : isHole (.pop i) = false := rfl
@[simp] theorem q_h_att {m : Nat} {a : IE} : isHole (.att m a) = false := rfl
@[simp] theorem q_items1 {xs : List D} : itemsD (.list xs) = some xs := rfl
@[simp] theorem q_items2 {xs : List D} : itemsD (.tuple xs) = some xs := rfl
@[simp] theorem q_for0 {b : D → En → Option En} {f : En → SOut} : forL b f [] e = .nx e := rfl
theorem q_for1 {b : D → En → Option En} {f : En → SOut} {d : D} {ds : List D} : forL b f (d :: ds) e = optS (b d e) fun e1 => match f e1 with
    | .nx e2 => forL b f ds e2
    | .ct e2 => forL b f ds e2
    | .bk e2 => .nx e2
    | .rt v e2 => .rt v e2
    | .exc k e2 => .exc k e2
    | .bad => .bad := rfl
@[simp] theorem q_rvD1 {x : D} : rvD (.d x) = x := rfl
@[simp] theorem q_rvD2 {x : List D} : rvD (.own x) = .list x := rfl
@[simp] theorem q_svs0 : svsOf e [] = some [] := rfl
@[simp] theorem q_svs1 {r : Ref} {rs : List Ref} : svsOf e (r :: rs) = (svOf e r).bind fun s => (svsOf e rs).map (s :: ·) := rfl
@[simp] theorem q_sv1 {d : D} : svOf e (.imm d) = some (.d d) := rfl
@[simp] theorem q_sv2 {i : Nat} : svOf e (.slot i) = match e[i]? with
    | some (some (.d x)) => some (.d x)
    | some (some (.own _ xs)) => some (.own true xs)
    | _ => none := rfl
@[simp] theorem q_dist0 : distinct [] = true := rfl
@[simp] theorem q_dist1 {d : D} {r : List Ref} : distinct (.imm d :: r) = distinct r := rfl
@[simp] theorem q_dist2 {i : Nat} {r : List Ref} : distinct (.slot i :: r) = (r.all (fun x => match x with | .slot j => i != j | .imm _ => true) && distinct r) := rfl
@[simp] theorem q_wb0 {ss : List SV} : wb e [] ss = e := by unfold wb; rfl
@[simp] theorem q_wb1 {d : D} {rs : List Ref} {s : SV} {ss : List SV} : wb e (.imm d :: rs) (s :: ss) = wb e rs ss := by rw [wb]; intro i p ys h; cases h
@[simp] theorem q_wb2 {i : Nat} {rs : List Ref} {p : Bool} {ys : List D} {ss : List SV} : wb e (.slot i :: rs) (.own p ys :: ss) = wb (put1 e i ys) rs ss := rfl
@[simp] theorem q_wb3 {i : Nat} {rs : List Ref} {d : D} {ss : List SV} : wb e (.slot i :: rs) (.d d :: ss) = wb e rs ss := rfl
@[simp] theorem q_put1 {i : Nat} {ys : List D} : put1 e i ys = match e[i]? with
  | some (some (.own p _)) => e.set i (some (.own p ys))
  | _ => e := rfl
@[simp] theorem q_mix0 {y : List (List D)} : mix [] y = [] := by cases y <;> rfl
@[simp] theorem q_mixe {s : List SV} : mix s [] = s := by cases s <;> rfl
@[simp] theorem q_mix1 {d : D} {r : List SV} {y : List D} {ys : List (List D)} : mix (.d d :: r) (y :: ys) = .d d :: mix r ys := rfl
@[simp] theorem q_mix2 {p : Bool} {d : List D} {r : List SV} {y : List D} {ys : List (List D)} : mix (.own p d :: r) (y :: ys) = .own p y :: mix r ys := rfl
@[simp] theorem q_run {F : FnDen} {rs : List Ref} : dRun F rs e = match svsOf e rs with
  | some ss => if distinct rs = true then (match F ss with
    | .ret r o => .ok r (wb e rs (mix ss o))
    | .exc c o => .exc c (wb e rs (mix ss o))
    | .bad => .bad) else .bad
  | none => .bad := rfl
/-- a slot that may be set -/
def frS : Option (Option SV) → Bool
  | none => false
  | some (some (.own true _)) => false
  | _ => true
@[simp] theorem frS_n : frS (some none) = true := rfl
@[simp] theorem frS_d {x : D} : frS (some (some (.d x))) = true := rfl
@[simp] theorem frS_o {x : List D} : frS (some (some (.own false x))) = true := rfl
@[simp] theorem frS_t {x : List D} : frS (some (some (.own true x))) = false := rfl
@[simp] theorem frS_x : frS none = false := rfl
@[simp] theorem frS_m {o : Option D} : frS (some (o.map SV.d)) = true := by cases o <;> rfl
@[simp] theorem frS_mo {o : Option (List D)} : frS (some (o.map (SV.own false))) = true := by cases o <;> rfl
@[simp] theorem q_setD {i : Nat} {x : D} : setD i x e = if frS e[i]? = true then some (e.set i (some (.d x))) else none := by
  unfold setD
  rcases e[i]? with _ | (_ | (x | ⟨p, xs⟩)) <;> try rfl
  cases p <;> rfl
@[simp] theorem q_setOwn {i : Nat} {x : List D} : setOwn i x e = if frS e[i]? = true then some (e.set i (some (.own false x))) else none := by
  unfold setOwn
  rcases e[i]? with _ | (_ | (x | ⟨p, xs⟩)) <;> try rfl
  cases p <;> rfl
@[simp] theorem q_b0 : bNil [] e = some e := rfl
@[simp] theorem q_b1 {b : D → En → Option En} {bs : List D → En → Option En} {d : D} {ds : List D} : bCons b bs (d :: ds) e = (b d e).bind (bs ds) := rfl
@[simp] theorem q_bt {m : Nat} {bs : List D → En → Option En} {ds : List D} : bTup m bs (.tuple ds) e = if ds.length = m then bs ds e else none := rfl
@[simp] theorem q_btl {m : Nat} {bs : List D → En → Option En} {ds : List D} : bTup m bs (.list ds) e = if ds.length = m then bs ds e else none := rfl
@[simp] theorem q_isOwn {i : Nat} : isOwn e i = match e[i]? with
  | some (some (.own _ _)) => true
  | _ => false := rfl
@[simp] theorem q_ownS {i : Nat} {f : List D → Option (List D)} : ownS e i f = match e[i]? with
  | some (some (.own q xs)) => match f xs with
    | some ys => .nx (e.set i (some (.own q ys)))
    | none => .bad
  | _ => .bad := rfl
end
end Fw
namespace Fw
open PySem PySem.Spec L2

/-! ### what defs are worth: of data alone; of a list of two numbers and data -/
abbrev Res := Except Nat D
def dargs : List SV → Option (List D)
  | [] => some []
  | .d x :: r => (dargs r).map (x :: ·)
  | .own _ _ :: _ => none
@[simp] theorem dargs0 : dargs [] = some [] := rfl
@[simp] theorem dargs1 {x : D} {r : List SV} : dargs (.d x :: r) = (dargs r).map (x :: ·) := rfl
theorem dargs_eq : ∀ {as : List SV} {ds : List D}, dargs as = some ds → as = ds.map .d
  | [], _, h => by cases h; rfl
  | .d x :: r, _, h => by
    obtain ⟨ds, h1, rfl⟩ := Option.map_eq_some_iff.mp h
    rw [List.map_cons, ← dargs_eq h1]
  | .own _ _ :: _, _, h => by cases h
def fnP (f : List D → Option Res) : FnDen := fun args => match dargs args with
  | some ds => (match f ds with
    | some (.ok r) => .ret (.d r) (ds.map fun _ => [])
    | some (.error c) => .exc c (ds.map fun _ => [])
    | none => .bad)
  | none => .bad
/-- a body's end is r; k: the arguments -/
def ends (o : SOut) (k : Nat) (r : Res) : Prop := match r with
  | .ok d => (∃ e, o = .rt (.d d) e ∧ k ≤ e.length) ∨ (d = .none ∧ ∃ e, o = .nx e ∧ k ≤ e.length)
  | .error c => ∃ e, o = .exc c e ∧ k ≤ e.length
theorem ends_rt {x d : D} {e : En} {k : Nat} (h : x = d) (hk : k ≤ e.length) : ends (.rt (.d x) e) k (.ok d) := .inl ⟨e, by rw [h], hk⟩
theorem ends_nx {e : En} {k : Nat} (hk : k ≤ e.length) : ends (.nx e) k (.ok .none) := .inr ⟨rfl, e, rfl, hk⟩
theorem ends_ex {c : Nat} {e : En} {k : Nat} (hk : k ≤ e.length) : ends (.exc c e) k (.error c) := ⟨e, rfl, hk⟩
@[simp] theorem ends_rtI {x d : D} {e : En} {k : Nat} : ends (.rt (.d x) e) k (.ok d) ↔ x = d ∧ k ≤ e.length := by
  constructor
  · rintro (⟨e', h, hk⟩ | ⟨_, e', h, _⟩)
    · cases h; exact ⟨rfl, hk⟩
    · cases h
  · rintro ⟨rfl, hk⟩; exact ends_rt rfl hk
@[simp] theorem ends_nxI {d : D} {e : En} {k : Nat} : ends (.nx e) k (.ok d) ↔ d = .none ∧ k ≤ e.length := by
  constructor
  · rintro (⟨e', h, hk⟩ | ⟨hd, e', h, hk⟩)
    · cases h
    · cases h; exact ⟨hd, hk⟩
  · rintro ⟨rfl, hk⟩; exact ends_nx hk
@[simp] theorem ends_exI {c c' : Nat} {e : En} {k : Nat} : ends (.exc c e) k (.error c') ↔ c = c' ∧ k ≤ e.length := by
  constructor
  · rintro ⟨e', h, hk⟩; cases h; exact ⟨rfl, hk⟩
  · rintro ⟨rfl, hk⟩; exact ends_ex hk
theorem outs_d : ∀ {ds : List D} {e : En}, ds.length ≤ e.length → outsOf (ds.map .d) e = ds.map fun _ => []
  | [], _, _ => rfl
  | d :: ds, [], h => by simp at h
  | d :: ds, o :: e, h => by
    have ih := outs_d (ds := ds) (e := e) (by simpa using h)
    cases o with
    | none => simp [outsOf, ih]
    | some s => cases s <;> simp [outsOf, ih]
theorem fnP_ok {f : List D → Option Res} {N m : Nat} {body : Nat → En → SOut} (h : ∀ ds r, f ds = some r → ds.length = m ∧ ∃ n, ends (body n (ds.map (fun d => some (.d d)) ++ List.replicate (N - m) none)) m r) :
    ∀ args, fnP f args ≠ .bad → ∃ n, funOf N m (body n) args = fnP f args := by
  intro args ha
  unfold fnP at ha ⊢
  cases q : dargs args with
  | none => rw [q] at ha; exact absurd rfl ha
  | some ds =>
    rw [q] at ha
    dsimp only at ha ⊢
    obtain rfl := dargs_eq q
    cases q2 : f ds with
    | none => rw [q2] at ha; exact absurd rfl ha
    | some r =>
      obtain ⟨hl, n, he⟩ := h ds r q2
      refine ⟨n, ?_⟩
      unfold funOf
      rw [if_pos (by rw [List.length_map]; exact hl)]
      have e0 : em (ds.map SV.d) = ds.map (fun d => some (SV.d d)) := by simp [em]
      rw [e0]
      cases r with
      | ok d =>
        rcases he with ⟨e, he, hk⟩ | ⟨rfl, e, he, hk⟩
        · rw [he]; dsimp only; rw [outs_d (by omega)]
        · rw [he]; dsimp only; rw [outs_d (by omega)]
      | error c =>
        obtain ⟨e, he, hk⟩ := he
        rw [he]; dsimp only; rw [outs_d (by omega)]
@[simp] theorem fnP_def {f : List D → Option Res} {args : List SV} : fnP f args = match dargs args with
  | some ds => (match f ds with
    | some (.ok r) => .ret (.d r) (ds.map fun _ => [])
    | some (.error c) => .exc c (ds.map fun _ => [])
    | none => .bad)
  | none => .bad := rfl
/-- a list of two numbers, changed in place -/
abbrev Vt := Int × Int
abbrev Vt.l (v : Vt) : List D := [.int v.1, .int v.2]
def fnV (f : Vt → List D → Option (D × Vt)) : FnDen := fun args => match args with
  | .own _ [.int a, .int b] :: rest => (match dargs rest with
    | some ds => (match f (a, b) ds with
      | some (r, v) => .ret (.d r) (v.l :: ds.map fun _ => [])
      | none => .bad)
    | none => .bad)
  | _ => .bad
@[simp] theorem fnV_def {f : Vt → List D → Option (D × Vt)} {p : Bool} {a b : Int} {rest : List SV} : fnV f (.own p [.int a, .int b] :: rest) = match dargs rest with
    | some ds => (match f (a, b) ds with
      | some (r, v) => .ret (.d r) (v.l :: ds.map fun _ => [])
      | none => .bad)
    | none => .bad := rfl
/-- the body's end: r, the list of numbers v -/
def endsV (o : SOut) (k : Nat) (r : D) (v : Vt) : Prop := ∃ p e, o = .rt (.d r) (some (.own p v.l) :: e) ∧ k ≤ e.length
@[simp] theorem endsV_rt {x r : D} {p : Bool} {e : En} {k : Nat} {v : Vt} {a b : Int} : endsV (.rt (.d x) (some (.own p [.int a, .int b]) :: e)) k r v ↔ x = r ∧ (a, b) = v ∧ k ≤ e.length := by
  constructor
  · rintro ⟨p', e', h, hk⟩
    obtain ⟨v1, v2⟩ := v
    simp only [SOut.rt.injEq, RV.d.injEq, List.cons.injEq, Option.some.injEq, SV.own.injEq, PyData.int.injEq] at h
    obtain ⟨h1, ⟨h2, h3, h4, _⟩, h5⟩ := h
    exact ⟨h1, by rw [h3, h4], by rw [h5]; exact hk⟩
  · rintro ⟨rfl, rfl, hk⟩; exact ⟨p, e, rfl, hk⟩
theorem fnV_ok {f : Vt → List D → Option (D × Vt)} {N m : Nat} {body : Nat → En → SOut} (h : ∀ v ds r, f v ds = some r → ds.length = m ∧ ∃ n, ∀ p, endsV (body n (some (.own p [.int v.1, .int v.2]) :: ds.map (fun d => some (.d d)) ++ List.replicate (N - (m + 1)) none)) m r.1 r.2) :
    ∀ args, fnV f args ≠ .bad → ∃ n, funOf N (m + 1) (body n) args = fnV f args := by
  intro args ha
  unfold fnV at ha ⊢
  split at ha
  · rename_i p a b rest
    cases q : dargs rest with
    | none => rw [q] at ha; exact absurd rfl ha
    | some ds =>
      rw [q] at ha
      dsimp only at ha ⊢
      obtain rfl := dargs_eq q
      cases q2 : f (a, b) ds with
      | none => rw [q2] at ha; exact absurd rfl ha
      | some r =>
        obtain ⟨hl, n, he⟩ := h (a, b) ds r q2
        obtain ⟨r, v'⟩ := r
        obtain ⟨p', e, he, hk⟩ := he p
        refine ⟨n, ?_⟩
        unfold funOf
        rw [if_pos (by simp [hl])]
        have e0 : em (SV.own p [.int a, .int b] :: ds.map SV.d) = some (SV.own p [.int a, .int b]) :: ds.map (fun d => some (SV.d d)) := by simp [em]
        rw [e0, he]
        dsimp only [outsOf]
        rw [outs_d (by omega)]
  · exact absurd rfl ha
end Fw
namespace Fw
open PySem PySem.Spec L2
@[simp] theorem g_add : gBin .Add = addD := rfl
@[simp] theorem g_sub : gBin .Sub = subD := rfl
@[simp] theorem g_mul : gBin .Mult = mulD := rfl
@[simp] theorem g_fdiv : gBin .FloorDiv = fdivD := rfl
@[simp] theorem g_mod : gBin .Mod = modD := rfl
@[simp] theorem g_pow : gBin .Pow = powD := rfl
@[simp] theorem g_eq : gCmp .Eq = eqD := rfl
@[simp] theorem g_ne : gCmp .NotEq = neD := rfl
@[simp] theorem g_lt : gCmp .Lt = ltD := rfl
@[simp] theorem g_le : gCmp .LtE = leD := rfl
@[simp] theorem g_gt : gCmp .Gt = gtD := rfl
@[simp] theorem g_ge : gCmp .GtE = geD := rfl
@[simp] theorem g_is : gCmp .Is = isD := rfl
@[simp] theorem g_isnot : gCmp .IsNot = isNotD := rfl
@[simp] theorem g_in : gCmp .In = inD := rfl
@[simp] theorem g_notin : gCmp .NotIn = notInD := rfl
@[simp] theorem g_len : gPrim .len = lenD := rfl
@[simp] theorem g_abs : gPrim .abs = absD := rfl
@[simp] theorem g_int : gPrim .int = intD := rfl
@[simp] theorem g_max : gPrim .max = maxD := rfl
@[simp] theorem g_min : gPrim .min = minD := rfl
@[simp] theorem g_all : gPrim .all = allD := rfl
@[simp] theorem g_any : gPrim .any = anyD := rfl
@[simp] theorem g_sum : gPrim .sum = sumD := rfl
@[simp] theorem g_list : gPrim .list = listD := rfl
@[simp] theorem g_tuple : gPrim .tuple = tupleD := rfl
@[simp] theorem lenD_list {xs : List D} : lenD [.list xs] = some (.int xs.length) := rfl
@[simp] theorem lenD_tuple {xs : List D} : lenD [.tuple xs] = some (.int xs.length) := rfl
@[simp] theorem eqD_int {a b : Int} : eqD (.int a) (.int b) = some (.bool (decide (a = b))) := by
  simp [eqD, okPair, PyData.canLay0, PyData.depth, PyData.eqv]; rfl
@[simp] theorem neD_int {a b : Int} : neD (.int a) (.int b) = some (.bool (!decide (a = b))) := by
  simp [neD, okPair, PyData.canLay0, PyData.depth, PyData.eqv]; rfl
@[simp] theorem addD_int {a b : Int} : addD (.int a) (.int b) = some (.int (a + b)) := rfl
@[simp] theorem subD_int {a b : Int} : subD (.int a) (.int b) = some (.int (a - b)) := rfl
@[simp] theorem ltD_int {a b : Int} : ltD (.int a) (.int b) = some (.bool (decide (a < b))) := rfl
@[simp] theorem leD_int {a b : Int} : leD (.int a) (.int b) = some (.bool (decide (a ≤ b))) := rfl
@[simp] theorem gtD_int {a b : Int} : gtD (.int a) (.int b) = some (.bool (decide (b < a))) := rfl
@[simp] theorem geD_int {a b : Int} : geD (.int a) (.int b) = some (.bool (decide (b ≤ a))) := rfl
@[simp] theorem negD_int {a : Int} : negD (.int a) = some (.int (-a)) := rfl
@[simp] theorem ixD_tuple {xs : List D} {i : Int} : ixD (.tuple xs) (.int i) = atI xs i := rfl
@[simp] theorem ixD_list {xs : List D} {i : Int} : ixD (.list xs) (.int i) = atI xs i := rfl
@[simp] theorem isNoneD_1 : isNoneD .none = true := rfl
@[simp] theorem isD_bool {a b : Bool} : isD (.bool a) (.bool b) = some (.bool (decide (a = b))) := rfl
@[simp] theorem isNotD_bool {a b : Bool} : isNotD (.bool a) (.bool b) = some (.bool (!decide (a = b))) := rfl
@[simp] theorem isT_bool {d : D} : isT "bool" d = match d with | .bool _ => true | _ => false := by cases d <;> rfl
@[simp] theorem isT_int {d : D} : isT "int" d = match d with | .bool _ => true | .int _ => true | _ => false := by cases d <;> rfl
@[simp] theorem isT_str {d : D} : isT "str" d = match d with | .str _ => true | _ => false := by cases d <;> rfl
@[simp] theorem isT_tuple {d : D} : isT "tuple" d = match d with | .tuple _ => true | _ => false := by cases d <;> rfl
@[simp] theorem isT_list {d : D} : isT "list" d = match d with | .list _ => true | _ => false := by cases d <;> rfl
@[simp] theorem cl_none : PyData.canLay0 .none = true := rfl
@[simp] theorem cl_bool {b : Bool} : PyData.canLay0 (.bool b) = true := rfl
@[simp] theorem cl_int {b : Int} : PyData.canLay0 (.int b) = true := rfl
@[simp] theorem cl_list {b : List D} : PyData.canLay0 (.list b) = PyData.canLayAll0 b := by rw [PyData.canLay0]
@[simp] theorem cl_tuple {b : List D} : PyData.canLay0 (.tuple b) = PyData.canLayAll0 b := by rw [PyData.canLay0]
@[simp] theorem cl_dict {b : List (D × D)} : PyData.canLay0 (.dict b) = false := by rw [PyData.canLay0]
@[simp] theorem cl_nil : PyData.canLayAll0 [] = true := rfl
@[simp] theorem cl_cons {a : D} {b : List D} : PyData.canLayAll0 (a :: b) = (PyData.canLay0 a && PyData.canLayAll0 b) := by rw [PyData.canLayAll0]
@[simp] theorem dp_none : PyData.depth .none = 0 := rfl
@[simp] theorem dp_bool {b : Bool} : PyData.depth (.bool b) = 0 := rfl
@[simp] theorem dp_int {b : Int} : PyData.depth (.int b) = 0 := rfl
@[simp] theorem dp_str {b : Str} : PyData.depth (.str b) = 0 := rfl
@[simp] theorem dp_list {b : List D} : PyData.depth (.list b) = PyData.depthAll b + 1 := by rw [PyData.depth]
@[simp] theorem dp_tuple {b : List D} : PyData.depth (.tuple b) = PyData.depthAll b + 1 := by rw [PyData.depth]
@[simp] theorem dp_nil : PyData.depthAll [] = 0 := rfl
@[simp] theorem dp_cons {a : D} {b : List D} : PyData.depthAll (a :: b) = max (PyData.depth a) (PyData.depthAll b) := by rw [PyData.depthAll]
@[simp] theorem ev_ss {a b : Str} : PyData.eqv (.str a) (.str b) = (a == b) := by rw [PyData.eqv]
@[simp] theorem ev_ii {a b : Int} : PyData.eqv (.int a) (.int b) = (a == b) := by rw [PyData.eqv]
@[simp] theorem ev_bb {a b : Bool} : PyData.eqv (.bool a) (.bool b) = (a == b) := by rw [PyData.eqv]
@[simp] theorem szl {n : Nat} (h : n ≤ 1000) : n ≤ sizeLine := Nat.le_trans h (by decide)
@[simp] theorem szlt {n : Nat} (h : n ≤ 1000) : n < sizeLine := Nat.lt_of_le_of_lt h (by decide)
/-- one of xs equals d -/
def anyEq (xs : List D) (d : D) : Bool := xs.any fun x => PyData.eqv x d
@[simp] theorem inD_list {d : D} {xs : List D} : inD d (.list xs) = if okPair d (.list xs) = true then some (.bool (anyEq xs d)) else none := by cases d <;> rfl
@[simp] theorem inD_tuple {d : D} {xs : List D} : inD d (.tuple xs) = if okPair d (.tuple xs) = true then some (.bool (anyEq xs d)) else none := by cases d <;> rfl
@[simp] theorem notInD_list {d : D} {xs : List D} : notInD d (.list xs) = if okPair d (.list xs) = true then some (.bool (!anyEq xs d)) else none := by cases d <;> rfl
@[simp] theorem notInD_tuple {d : D} {xs : List D} : notInD d (.tuple xs) = if okPair d (.tuple xs) = true then some (.bool (!anyEq xs d)) else none := by cases d <;> rfl
/-! atI at a literal -/
@[simp] theorem atI_0 {α : Type} {x : α} {r : List α} : atI (x :: r) 0 = some x := by simp [atI, ixN]
theorem atI_pos {α : Type} {l : List α} {n : Nat} (h : n < l.length) : atI l (n : Int) = some l[n] := by
  have h0 : ¬ ((n : Int) < 0) := by omega
  simp [atI, ixN, h, h0]
@[simp] theorem atI_1 {α : Type} {x y : α} {r : List α} : atI (x :: y :: r) 1 = some y := atI_pos (n := 1) (l := x :: y :: r) (by simp)
@[simp] theorem atI_2 {α : Type} {x y z : α} {r : List α} : atI (x :: y :: z :: r) 2 = some z := atI_pos (n := 2) (l := x :: y :: z :: r) (by simp)
@[simp] theorem atI_3 {α : Type} {x y z u : α} {r : List α} : atI (x :: y :: z :: u :: r) 3 = some u := atI_pos (n := 3) (l := x :: y :: z :: u :: r) (by simp)
@[simp] theorem atI_4 {α : Type} {x y z u v : α} {r : List α} : atI (x :: y :: z :: u :: v :: r) 4 = some v := atI_pos (n := 4) (l := x :: y :: z :: u :: v :: r) (by simp)
end Fw
namespace Fw
open PySem PySem.Spec L2
/-! ### comprehensions and loops -/
theorem compL_ok {vs : List Nat} {b : D → En → Option En} {ft : Option (En → EOut Ref)} {fe : En → EOut Ref} {e : En} {t : D → Bool} {g : D → D} : ∀ {ds acc : List D},
    (∀ d ∈ ds, ∃ e1, b d e = some e1 ∧ ∃ e2, tests ft e1 = .ok (t d) e2 ∧ (t d = false → wipeE e2 vs = e) ∧ (t d = true → ∃ e3, fe e2 = .ok (.imm (g d)) e3 ∧ wipeE e3 vs = e)) → acc.length + ds.length ≤ sizeLine →
    compL vs b ft fe ds acc e = .ok (acc ++ (ds.filter t).map g) e
  | [], acc, _, _ => by simp [compL]
  | d :: ds, acc, h, hl => by
    obtain ⟨e1, h1, e2, h2, h3, h4⟩ := h d (by simp)
    simp only [List.length_cons] at hl
    rw [compL, h1]
    dsimp only
    rw [h2]
    cases q : t d with
    | false =>
      simp only [EOut.bind_ok, cond_false]
      rw [h3 q, compL_ok (ds := ds) (fun d hd => h d (by simp [hd])) (by omega)]
      simp [q]
    | true =>
      obtain ⟨e3, h5, h6⟩ := h4 q
      simp only [EOut.bind_ok, cond_true]
      rw [h5]
      simp only [noX, EOut.bind_ok]
      rw [if_pos (by omega), h6, compL_ok (ds := ds) (fun d hd => h d (by simp [hd])) (by simp; omega)]
      simp [q]
@[simp] theorem tests_none {e : En} : tests none e = .ok true e := rfl
@[simp] theorem tests_some {f : En → EOut Ref} {e : En} : tests (some f) e = (noX (f e)).bind fun r e1 => truK r e1 fun b => .ok b e1 := rfl
@[simp] theorem noX_ok {α : Type} {a : α} {e : En} : noX (.ok a e) = .ok a e := rfl
@[simp] theorem boolsD_map {ds : List D} {t : D → Bool} : boolsD (ds.map fun d => .bool (t d)) = some (ds.map t) := by
  induction ds with
  | nil => rfl
  | cons d ds ih => simp [boolsD, ih]
@[simp] theorem allD_map {ds : List D} {t : D → Bool} : allD [.list (ds.map fun d => .bool (t d))] = some (.bool (ds.all t)) := by
  show (boolsD _).map _ = _
  rw [boolsD_map]; simp [List.all_map]
/-- a comprehension without a test, its block's names only, nothing changed -/
theorem dComp_map {fi : En → EOut (List D)} {vs : List Nat} {b : D → En → Option En} {fe : En → EOut Ref} {e e1 : En} {ds : List D} {g : D → D} (hi : fi e = .ok ds e1) (hn : noOwn e1 vs = true) (hl : ds.length ≤ sizeLine)
    (h : ∀ d ∈ ds, ∃ e2, b d (wipeE e1 vs) = some e2 ∧ ∃ e3, fe e2 = .ok (.imm (g d)) e3 ∧ wipeE e3 vs = wipeE e1 vs) (hu : unwipe e1 (wipeE e1 vs) vs = e1) : dComp fi vs b none fe e = .ok (.imm (.list (ds.map g))) e1 := by
  unfold dComp
  rw [hi]
  simp only [EOut.bind_ok]
  rw [if_pos hn, compL_ok (t := fun _ => true) (g := g) (fun d hd => ?_) (by simpa using hl)]
  · have : ds.filter (fun _ => true) = ds := List.filter_eq_self.mpr fun _ _ => rfl
    simp [hu, this]
  · obtain ⟨e2, h1, e3, h2, h3⟩ := h d hd
    exact ⟨e2, h1, e2, rfl, fun z => (by cases z), fun _ => ⟨e3, h2, h3⟩⟩
theorem dComp_filter {fi : En → EOut (List D)} {vs : List Nat} {b : D → En → Option En} {fe ft : En → EOut Ref} {e e1 : En} {ds : List D} {g : D → D} {t : D → Bool} (hi : fi e = .ok ds e1) (hn : noOwn e1 vs = true) (hl : ds.length ≤ sizeLine)
    (h : ∀ d ∈ ds, ∃ e2, b d (wipeE e1 vs) = some e2 ∧ ∃ e3, tests (some ft) e2 = .ok (t d) e3 ∧ wipeE e3 vs = wipeE e1 vs ∧ (t d = true → ∃ e4, fe e3 = .ok (.imm (g d)) e4 ∧ wipeE e4 vs = wipeE e1 vs)) (hu : unwipe e1 (wipeE e1 vs) vs = e1) :
    dComp fi vs b (some ft) fe e = .ok (.imm (.list ((ds.filter t).map g))) e1 := by
  unfold dComp
  rw [hi]
  simp only [EOut.bind_ok]
  rw [if_pos hn, compL_ok (t := t) (g := g) (fun d hd => ?_) (by simpa using hl)]
  · simp [hu]
  · obtain ⟨e2, h1, e3, h2, h3, h4⟩ := h d hd
    exact ⟨e2, h1, e3, h2, fun _ => h3, h4⟩
theorem len5 {α : Type} {xs : List α} (h : xs.length = 5) : ∃ a b c d e, xs = [a, b, c, d, e] := by
  match xs, h with
  | [a, b, c, d, e], _ => exact ⟨a, b, c, d, e, rfl⟩
theorem len2 {α : Type} {xs : List α} (h : xs.length = 2) : ∃ a b, xs = [a, b] := by
  match xs, h with
  | [a, b], _ => exact ⟨a, b, rfl⟩
theorem len3 {α : Type} {xs : List α} (h : xs.length = 3) : ∃ a b c, xs = [a, b, c] := by
  match xs, h with
  | [a, b, c], _ => exact ⟨a, b, c, rfl⟩
theorem len4 {α : Type} {xs : List α} (h : xs.length = 4) : ∃ a b c d, xs = [a, b, c, d] := by
  match xs, h with
  | [a, b, c, d], _ => exact ⟨a, b, c, d, rfl⟩
theorem clAll_mem {ds : List D} (h : PyData.canLayAll0 ds = true) {d : D} (hd : d ∈ ds) : d.canLay0 = true := by
  induction ds with
  | nil => cases hd
  | cons x ds ih =>
    rw [cl_cons] at h
    have h := and2 h
    rcases List.mem_cons.mp hd with rfl | hd
    · exact h.1
    · exact ih h.2 hd
/-- a loop that carries a state -/
theorem forL_fold {S : Type} (E : S → En) (g : S → D → S) {b : D → En → Option En} {f : En → SOut} : ∀ {ds : List D} {s : S}, (∀ s d, d ∈ ds → ∃ e1, b d (E s) = some e1 ∧ f e1 = .nx (E (g s d))) → forL b f ds (E s) = .nx (E (ds.foldl g s))
  | [], s, _ => rfl
  | d :: ds, s, h => by
    obtain ⟨e1, h1, h2⟩ := h s d (by simp)
    rw [q_for1, h1, optS_some, h2]
    exact forL_fold E g (ds := ds) fun s d hd => h s d (by simp [hd])
/-- a loop that keeps a promise -/
theorem forL_inv (P : En → Prop) {b : D → En → Option En} {f : En → SOut} : ∀ {ds : List D} {e : En}, (∀ d ∈ ds, ∀ e, P e → ∃ e1, b d e = some e1 ∧ ∃ e2, (f e1 = .nx e2 ∨ f e1 = .ct e2) ∧ P e2) → P e → ∃ e', forL b f ds e = .nx e' ∧ P e'
  | [], e, _, p => ⟨e, rfl, p⟩
  | d :: ds, e, h, p => by
    obtain ⟨e1, h1, e2, h2, p2⟩ := h d (by simp) e p
    obtain ⟨e', h3, p'⟩ := forL_inv P (ds := ds) (fun d hd => h d (by simp [hd])) p2
    refine ⟨e', ?_, p'⟩
    rw [q_for1, h1, optS_some]
    rcases h2 with h2 | h2 <;> rw [h2] <;> exact h3
end Fw
namespace Fw
open PySem PySem.Spec L2
theorem forL_foldP {S : Type} (E : S → En) (g : S → D → S) (P : S → List D → Prop) {b : D → En → Option En} {f : En → SOut} : ∀ {ds : List D} {s : S}, (∀ s d ds, P s (d :: ds) → ∃ e1, b d (E s) = some e1 ∧ f e1 = .nx (E (g s d)) ∧ P (g s d) ds) → P s ds → forL b f ds (E s) = .nx (E (ds.foldl g s))
  | [], s, _, _ => rfl
  | d :: ds, s, h, p => by
    obtain ⟨e1, h1, h2, h3⟩ := h s d ds p
    rw [q_for1, h1, optS_some, h2]
    exact forL_foldP E g P (ds := ds) h h3
/-- found = found + f(one), the last one kept -/
theorem fold_app {γ : Type} (f : D → List γ) : ∀ (ds : List D) (acc : List γ) (o : Option D), ∃ o', ds.foldl (fun (s : List γ × Option D) d => (s.1 ++ f d, some d)) (acc, o) = (acc ++ ds.flatMap f, o')
  | [], acc, o => ⟨o, by simp⟩
  | d :: ds, acc, o => by
    obtain ⟨o', h⟩ := fold_app f ds (acc ++ f d) (some d)
    exact ⟨o', by rw [List.foldl_cons]; show ds.foldl _ (acc ++ f d, some d) = _; rw [h]; simp⟩
@[simp] theorem addD_tuple {a b : List D} (h : a.length + b.length ≤ sizeLine) : addD (.tuple a) (.tuple b) = some (.tuple (a ++ b)) := if_pos h
@[simp] theorem addD_list {a b : List D} (h : a.length + b.length ≤ sizeLine) : addD (.list a) (.list b) = some (.list (a ++ b)) := if_pos h
@[simp] theorem eqD_str {a b : Str} (h1 : PyData.canLay0 (.str a) = true) (h2 : PyData.canLay0 (.str b) = true) : eqD (.str a) (.str b) = some (.bool (a == b)) := by simp [eqD, okPair, *]
@[simp] theorem neD_str {a b : Str} (h1 : PyData.canLay0 (.str a) = true) (h2 : PyData.canLay0 (.str b) = true) : neD (.str a) (.str b) = some (.bool (!(a == b))) := by simp [neD, okPair, *]
@[simp] theorem listD_tuple {a : List D} : listD [.tuple a] = some (.list a) := rfl
@[simp] theorem listD_list {a : List D} : listD [.list a] = some (.list a) := rfl
@[simp] theorem tupleD_list {a : List D} : tupleD [.list a] = some (.tuple a) := rfl
@[simp] theorem tupleD_tuple {a : List D} : tupleD [.tuple a] = some (.tuple a) := rfl
end Fw
namespace Fw
open PySem PySem.Spec L2
/-- a new list -/
def fnO (f : List D → Option (List D)) : FnDen := fun args => match dargs args with
  | some ds => (match f ds with
    | some r => .ret (.own r) (ds.map fun _ => [])
    | none => .bad)
  | none => .bad
@[simp] theorem fnO_def {f : List D → Option (List D)} {args : List SV} : fnO f args = match dargs args with
  | some ds => (match f ds with
    | some r => .ret (.own r) (ds.map fun _ => [])
    | none => .bad)
  | none => .bad := rfl
theorem fnO_ok {f : List D → Option (List D)} {N m : Nat} {body : Nat → En → SOut} (h : ∀ ds r, f ds = some r → ds.length = m ∧ ∃ n e, body n (ds.map (fun d => some (.d d)) ++ List.replicate (N - m) none) = .rt (.own r) e ∧ m ≤ e.length) :
    ∀ args, fnO f args ≠ .bad → ∃ n, funOf N m (body n) args = fnO f args := by
  intro args ha
  unfold fnO at ha ⊢
  cases q : dargs args with
  | none => rw [q] at ha; exact absurd rfl ha
  | some ds =>
    rw [q] at ha
    dsimp only at ha ⊢
    obtain rfl := dargs_eq q
    cases q2 : f ds with
    | none => rw [q2] at ha; exact absurd rfl ha
    | some r =>
      obtain ⟨hl, n, e, he, hk⟩ := h ds r q2
      refine ⟨n, ?_⟩
      unfold funOf
      rw [if_pos (by rw [List.length_map]; exact hl)]
      have e0 : em (ds.map SV.d) = ds.map (fun d => some (SV.d d)) := by simp [em]
      rw [e0, he]; dsimp only; rw [outs_d (by omega)]
@[simp] theorem absD_int {i : Int} : absD [.int i] = some (.int (if i < 0 then -i else i)) := rfl
@[simp] theorem intD_int {i : Int} : intD [.int i] = some (.int i) := rfl
@[simp] theorem intD_bool {i : Bool} : intD [.bool i] = some (.int (if i then 1 else 0)) := rfl
theorem modD_int {a b : Int} (h : 0 < b) : modD (.int a) (.int b) = some (.int (a % b)) := if_pos h
theorem fdivD_int {a b : Int} (h : 0 < b ∧ b < 1073741824) : fdivD (.int a) (.int b) = some (.int (a / b)) := if_pos h
@[simp] theorem modD_int' {a b : Int} : modD (.int a) (.int b) = if 0 < b then some (.int (a % b)) else none := rfl
@[simp] theorem fdivD_int' {a b : Int} : fdivD (.int a) (.int b) = if 0 < b ∧ b < 1073741824 then some (.int (a / b)) else none := rfl
theorem mulD_int {a b : Int} (h : (-(2 ^ 64) < a ∧ a < 2 ^ 64) ∨ (-(2 ^ 64) < b ∧ b < 2 ^ 64)) : mulD (.int a) (.int b) = some (.int (a * b)) := if_pos h
@[simp] theorem mulD_int' {a b : Int} : mulD (.int a) (.int b) = if (-(2 ^ 64) < a ∧ a < 2 ^ 64) ∨ (-(2 ^ 64) < b ∧ b < 2 ^ 64) then some (.int (a * b)) else none := rfl
@[simp] theorem powD_int' {a b : Int} : powD (.int a) (.int b) = if 0 ≤ b ∧ b ≤ 1000000 ∧ a.natAbs < 2 ^ 64 then some (.int (a ^ b.toNat)) else none := rfl
@[simp] theorem setAt2_0 {x y d : D} : setAtD 0 d [x, y] = some [d, y] := rfl
@[simp] theorem setAt2_1 {x y d : D} : setAtD 1 d [x, y] = some [x, d] := rfl
end Fw
namespace Fw
@[simp] theorem prod_eta {α β : Type} (p : α × β) : (p.1, p.2) = p := rfl
end Fw
namespace Fw
open PySem PySem.Spec L2
theorem forL_at {S : Type} (E : S → En) (g : S → D → S) (P : S → List D → Prop) (s : S) {b : D → En → Option En} {f : En → SOut} {ds : List D} {e : En} (hE : e = E s) (h : ∀ s d ds, P s (d :: ds) → ∃ e1, b d (E s) = some e1 ∧ f e1 = .nx (E (g s d)) ∧ P (g s d) ds) (hP : P s ds) : forL b f ds e = .nx (E (ds.foldl g s)) := by
  rw [hE]; exact forL_foldP E g P h hP
end Fw
namespace Fw
open PySem PySem.Spec L2
/-- a run that carries a state -/
def stRun {S : Type} (step : S → D → D × S) : S → List D → List D × S
  | s, [] => ([], s)
  | s, d :: ds => ((step s d).1 :: (stRun step (step s d).2 ds).1, (stRun step (step s d).2 ds).2)
theorem stRun_length {S : Type} (step : S → D → D × S) : ∀ (s : S) (ds : List D), (stRun step s ds).1.length = ds.length
  | _, [] => rfl
  | s, d :: ds => congrArg (· + 1) (stRun_length step (step s d).2 ds)
theorem compL_st {S : Type} (E : S → En) (step : S → D → D × S) (P : S → List D → Prop) {vs : List Nat} {b : D → En → Option En} {fe : En → EOut Ref} (h : ∀ s d ds, P s (d :: ds) → ∃ e1, b d (E s) = some e1 ∧ ∃ e3, fe e1 = .ok (.imm (step s d).1) e3 ∧ wipeE e3 vs = E (step s d).2 ∧ P (step s d).2 ds) :
    ∀ {ds : List D} {s : S} {acc : List D}, P s ds → acc.length + ds.length ≤ sizeLine → compL vs b none fe ds acc (E s) = .ok (acc ++ (stRun step s ds).1) (E (stRun step s ds).2)
  | [], s, acc, _, _ => by simp [compL, stRun]
  | d :: ds, s, acc, p, hl => by
    obtain ⟨e1, h1, e3, h2, h3, h4⟩ := h s d ds p
    simp only [List.length_cons] at hl
    rw [compL, h1]
    dsimp only
    rw [tests_none]
    simp only [EOut.bind_ok, cond_true]
    rw [h2, noX_ok]
    simp only [EOut.bind_ok]
    rw [if_pos (by omega), h3, compL_st E step P h (ds := ds) (s := (step s d).2) h4 (by simp; omega)]
    simp [stRun]
theorem dComp_st {S : Type} (E : S → En) (step : S → D → D × S) (P : S → List D → Prop) (s : S) {fi : En → EOut (List D)} {vs : List Nat} {b : D → En → Option En} {fe : En → EOut Ref} {e e1 : En} {ds : List D} (hi : fi e = .ok ds e1) (hn : noOwn e1 vs = true) (hE : wipeE e1 vs = E s) (hP : P s ds) (hl : ds.length ≤ sizeLine)
    (h : ∀ s d ds, P s (d :: ds) → ∃ e1, b d (E s) = some e1 ∧ ∃ e3, fe e1 = .ok (.imm (step s d).1) e3 ∧ wipeE e3 vs = E (step s d).2 ∧ P (step s d).2 ds) :
    dComp fi vs b none fe e = .ok (.imm (.list (stRun step s ds).1)) (unwipe e1 (E (stRun step s ds).2) vs) := by
  unfold dComp
  rw [hi]
  simp only [EOut.bind_ok]
  rw [if_pos hn, hE, compL_st E step P h hP (by simpa using hl)]
  simp
@[simp] theorem wipeE_cons {e : En} {v : Nat} {vs : List Nat} : wipeE e (v :: vs) = (wipeE e vs).set v none := rfl
@[simp] theorem wipeE_nil {e : En} : wipeE e [] = e := rfl
@[simp] theorem unwipe_cons {e e' : En} {v : Nat} {vs : List Nat} : unwipe e e' (v :: vs) = (unwipe e e' vs).set v (e.getD v none) := rfl
@[simp] theorem unwipe_nil {e e' : En} : unwipe e e' [] = e' := rfl
mutual
/-- no list longer than n within -/
def wd (n : Nat) : D → Bool
  | .list xs => decide (xs.length ≤ n) && wdAll n xs
  | .tuple xs => decide (xs.length ≤ n) && wdAll n xs
  | _ => true
def wdAll (n : Nat) : List D → Bool
  | [] => true
  | x :: xs => wd n x && wdAll n xs
end
@[simp] theorem wd_list {n : Nat} {xs : List D} : wd n (.list xs) = (decide (xs.length ≤ n) && wdAll n xs) := by rw [wd]
@[simp] theorem wd_tuple {n : Nat} {xs : List D} : wd n (.tuple xs) = (decide (xs.length ≤ n) && wdAll n xs) := by rw [wd]
@[simp] theorem wd_int {n : Nat} {i : Int} : wd n (.int i) = true := by rw [wd] <;> (intros; exact PyData.noConfusion ‹_›)
@[simp] theorem wd_str {n : Nat} {i : Str} : wd n (.str i) = true := by rw [wd] <;> (intros; exact PyData.noConfusion ‹_›)
@[simp] theorem wd_bool {n : Nat} {i : Bool} : wd n (.bool i) = true := by rw [wd] <;> (intros; exact PyData.noConfusion ‹_›)
@[simp] theorem wd_none {n : Nat} : wd n .none = true := by rw [wd] <;> (intros; exact PyData.noConfusion ‹_›)
@[simp] theorem wdAll_nil {n : Nat} : wdAll n [] = true := rfl
@[simp] theorem wdAll_cons {n : Nat} {x : D} {xs : List D} : wdAll n (x :: xs) = (wd n x && wdAll n xs) := by rw [wdAll]
theorem wdAll_mem {n : Nat} {ds : List D} (h : wdAll n ds = true) {d : D} (hd : d ∈ ds) : wd n d = true := by
  induction ds with
  | nil => cases hd
  | cons x ds ih =>
    rw [wdAll_cons] at h
    have h := and2 h
    rcases List.mem_cons.mp hd with rfl | hd
    · exact h.1
    · exact ih h.2 hd
theorem wdAll_of {n : Nat} : ∀ {ds : List D}, (∀ d ∈ ds, wd n d = true) → wdAll n ds = true
  | [], _ => rfl
  | d :: ds, h => by rw [wdAll_cons, h d (by simp), wdAll_of fun x hx => h x (by simp [hx])]; rfl
theorem clAll_of : ∀ {ds : List D}, (∀ d ∈ ds, d.canLay0 = true) → PyData.canLayAll0 ds = true
  | [], _ => rfl
  | d :: ds, h => by rw [cl_cons, h d (by simp), clAll_of fun x hx => h x (by simp [hx])]; rfl
@[simp] theorem eqvAll_nil {xs : List D} : PyData.eqvAll xs [] = xs.isEmpty := by cases xs <;> rfl
@[simp] theorem eqv_list {xs ys : List D} : PyData.eqv (.list xs) (.list ys) = PyData.eqvAll xs ys := by rw [PyData.eqv]
@[simp] theorem eqv_tuple {xs ys : List D} : PyData.eqv (.tuple xs) (.tuple ys) = PyData.eqvAll xs ys := by rw [PyData.eqv]
end Fw
namespace Fw
open PySem PySem.Spec L2

/-! ### tables of code objects hold through new objects and stores -/
theorem gok_tabs (T : List (Addr × Str)) : GOk (LamX.Tabs T) := fun H p o g hp q hq => by
  obtain ⟨ps, h1, h2, h3⟩ := g q hq
  have ne : ∀ {c : Addr} {u : HO}, H c = some u → ¬ Plain u → c ≠ p := fun h n z => n (hp _ (by rw [← z]; exact h))
  refine ⟨ps, ?_, h2, fun pos cv hc => ?_⟩
  · rw [upd_ne (ne h1 fun z => z)]; exact h1
  · obtain ⟨c, e, hc'⟩ := h3 pos cv hc
    exact ⟨c, e, by rw [upd_ne (ne hc' fun z => z)]; exact hc'⟩
section
variable {K : PySem.W.Frag} {κ : Kt} {σ : St} {H H1 : Hp} {e : En}
theorem ext_extN {M : AS} (s : LamX.ExtN H H1) : Ext M H H1 := fun a o h n => ⟨fun _ => s a o h n, o, s a o h n, n⟩
/-- all but tables stays -/
theorem Step.extN (R : Rel K κ σ H e) (s : LamX.ExtN H H1) (g : κ.G H1) : Step K κ σ H e σ H1 e where
  rel := {
    len := R.len
    dat := fun i x h => let ⟨v, h1, h2⟩ := R.dat i x h; ⟨v, h1, h2.ext (ext_extN s)⟩
    own := fun i p xs h => let ⟨a, vs, h1, h2, h3, h4⟩ := R.own i p xs h; ⟨a, vs, h1, s a _ h2 nt_lst, h3, h4.ext (ext_extN s)⟩
    inj := R.inj
    av := fun a h z => R.av a h ((ext_extN (M := fun _ => True) s).fre z)
    g := g }
  ext := ext_extN s
  own := fun a h => .inl h
  pin := fun i xs h => ⟨⟨xs, h⟩, rfl⟩
end
section
variable {Γ : Gm} {Φ : FEnv} {G : Hp → Prop} {ec : Nat → Addr} {P : Program} {w : World} {K : PySem.W.Frag} {mg : Str → Option Value} {base : Heap} {k : Nat}
theorem Md.fitA (M : Md Γ Φ G ec P w K mg base k) {X : Cx} {N : List Str} {st : Stmt} {W : WX} {qd : Str} {cd : Value} (hP : X.prog = P) (hw : X.w = w) (hK : X.K = K) (hmg : X.mg = mg) (hba : X.base = base) (at' : AtDef X N (defScope st) (k + 2) W qd cd) (hN : N.Nodup) (hk : (defScope st).kind = .function)
    (ha : ∀ x m, Γ.atts.lookup x = some m → AttOk P w K mg base cd qd k G ec Φ.nm x m) : Fit Γ Φ G ec k (cnOfA N st) X W := by
  subst hP hw hK hmg hba
  refine { N := at'.N, nd := by rw [at'.N]; exact hN, sc := at'.sc, kind := by rw [at'.sc]; exact hk, calm := at'.calm, fn := fun x _ => at'.fn x, g := M.B.g, room := Room.mono at'.room (Nat.le_add_right k 2), tk := at'.tk, fns := fun x f n h => ?_, excs := fun x c h => ?_, cst := M.B.cst, blt := M.B.blt, att := fun _ => ⟨at'.room, fun x m h => by rw [at'.code, at'.qual]; exact ha x m h⟩ }
  · obtain ⟨a, fd, ps, m, o⟩ := M.fns x f n h
    exact ⟨a, fd, ps, m.n, o, m.g, m.k, m.b⟩
  · have e := M.B.excs x c h
    exact ⟨e.g, e.k, e.x, e.b, e.t⟩
/-- THE RULE for a def that hands lambdas on -/
theorem Md.addA (M : Md Γ Φ G ec P w K mg base k) {x qual : Str} {st : Stmt} {f n : Nat} {a : Addr} {fd : FuncData} {N ps : List Str} {F : FnDen} {ir : List IS} (hu : Γ.fns.all (fun p => p.2.1 != f || p.1 == x) = true) (m : FnM K mg x n a fd ps) (hn : Γ.fns.lookup x = some (f, n))
    (Fu : Fun K x qual st a fd) (S : FnScope N ps (defScope st)) (hc : chkSs Γ (cnOfA N st) ir (defBody st) = true) (ha : ∀ x m, Γ.atts.lookup x = some m → AttOk P w K mg base fd.code (qual ++ ".<locals>.") k G ec Φ.nm x m)
    (hF : ∀ args, F args ≠ .bad → ∃ j, funOf N.length ps.length (denSs Φ j ir) args = F args) : Md Γ (Φ.set f F) G ec P w K mg base (k + 3) :=
  (M.mono (j := k + 2) (by omega)).put hu m hn (fn_ok Fu S hF fun X A W j hP hw hK hmg hba at' => by
    have Ft := M.fitA hP hw hK hmg hba at' S.nd S.kind ha
    have := snd_Ss Ft at'.po j ir hc A
    rw [hK] at this
    exact this)
/-- a def of the module as the head tells it -/
structure DefIn (K : PySem.W.Frag) (mg : Str → Option Value) (x : Str) (ps : List Str) (st : Stmt) : Prop where
  ex : ∃ (a : Addr) (fd : FuncData), FnM K mg x ps.length a fd ps ∧ Fun K x x st a fd
theorem Md.addD (M : Md Γ Φ G ec P w K mg base k) {x : Str} {st : Stmt} {f : Nat} {N ps : List Str} {F : FnDen} {ir : List IS} (d : DefIn K mg x ps st) (hu : (Γ.fns.all (fun p => p.2.1 != f || p.1 == x) && (Γ.fns.lookup x == some (f, ps.length))) = true)
    (S : FnScope N ps (defScope st)) (hc : chkSs Γ (cnOf N st) ir (defBody st) = true) (hF : ∀ args, F args ≠ .bad → ∃ j, funOf N.length ps.length (denSs Φ j ir) args = F args) : Md Γ (Φ.set f F) G ec P w K mg base (k + 1) := by
  obtain ⟨a, fd, m, Fu⟩ := d.ex
  exact M.add (and2 hu).1 m (beq_iff_eq.mp (and2 hu).2) Fu S hc hF
theorem Md.addDA (M : Md Γ Φ G ec P w K mg base k) {x : Str} {st : Stmt} {f : Nat} {N ps : List Str} {F : FnDen} {ir : List IS} (d : DefIn K mg x ps st) (hu : (Γ.fns.all (fun p => p.2.1 != f || p.1 == x) && (Γ.fns.lookup x == some (f, ps.length))) = true)
    (S : FnScope N ps (defScope st)) (hc : chkSs Γ (cnOfA N st) ir (defBody st) = true) (ha : ∀ (a : Addr) (fd : FuncData), mg x = some (.ref a) → Fun K x x st a fd → ∀ y m, Γ.atts.lookup y = some m → AttOk P w K mg base fd.code (x ++ ".<locals>.") k G ec Φ.nm y m)
    (hF : ∀ args, F args ≠ .bad → ∃ j, funOf N.length ps.length (denSs Φ j ir) args = F args) : Md Γ (Φ.set f F) G ec P w K mg base (k + 3) := by
  obtain ⟨a, fd, m, Fu⟩ := d.ex
  exact M.addA (and2 hu).1 m (beq_iff_eq.mp (and2 hu).2) Fu S hc (ha a fd m.g Fu) hF
/-- the law's own promise, at the script -/
theorem law_spOf {n : Nat} {f : FnDen} {a : Addr} {ns : List Int} {H : Hp} (hG : G H) (h : SqL K H a (ns.map V.int)) (hf : f [.d (.list (ns.map PyData.int))] = .ret (.d (.bool true)) [[]]) (hn : n = 1) : spOf K G ec n f [.ref a] H (fun v _ => v = .bl true) fun _ _ _ => False := by
  subst hn
  have ra : ∀ ns : List Int, RpAll K H (fun _ => False) (ns.map V.int) (ns.map PyData.int) := fun ns => by
    induction ns with
    | nil => exact .nil
    | cons n ns ih => exact .cons (.int n) ih
  have no : ∀ b, ¬ AO ⟨fun _ => False, G, ec⟩ (sm [V.ref a]) (em [SV.d (.list (ns.map PyData.int))]) b := fun b z => by
    rcases z with z | ⟨i, p, xs, h1, h2⟩
    · exact z
    · match i with
      | 0 => cases h1
      | i + 1 => simp [em] at h1
  have rp : Rp K H (AO ⟨fun _ => False, G, ec⟩ (sm [V.ref a]) (em [SV.d (.list (ns.map PyData.int))])) (.ref a) (.list (ns.map PyData.int)) :=
    .lst (h.imp (fun z => ⟨z, no a⟩) id) ((ra ns).avoid fun b z => (no b z).elim)
  refine ⟨rfl, fun _ => False, [.d (.list (ns.map PyData.int))], ⟨rfl, fun i x hx => ?_, fun i p xs hx => ?_, fun i j p q xs ys b hx => ?_, fun b z => z.elim, hG⟩, fun i p xs hx => ?_, ?_⟩
  · match i with
    | 0 => cases hx; exact ⟨_, rfl, rp⟩
    | i + 1 => simp [em] at hx
  · match i with
    | 0 => cases hx
    | i + 1 => simp [em] at hx
  · match i with
    | 0 => cases hx
    | i + 1 => simp [em] at hx
  · match i with
    | 0 => cases hx
    | i + 1 => simp at hx
  · rw [hf]
    intro v H' _ hv
    cases hv
    rfl
end
end Fw
namespace Fw
open PySem PySem.Spec L2
section
variable {Γ : Gm} {Φ : FEnv} {G : Hp → Prop} {ec : Nat → Addr} {P : Program} {w : World} {K : PySem.W.Frag} {mg : Str → Option Value} {base : Heap} {k : Nat}
theorem Md.bad (M : Md Γ Φ G ec P w K mg base k) {f : Nat} {F : FnDen} (hF : ∀ args, F args = .bad) : Md Γ (Φ.set f F) G ec P w K mg base k := ⟨M.B, fun y g j q => by
  obtain ⟨a, fd, ps, m, o⟩ := M.fns y g j q
  by_cases h : g = f
  · subst h; exact ⟨a, fd, ps, m, by rw [FEnv.set_same]; exact fn_bad hF⟩
  · exact ⟨a, fd, ps, m, by rw [FEnv.set_ne h]; exact o⟩⟩
theorem FEnv.set_set {f : Nat} {F F' : FnDen} : (Φ.set f F).set f F' = Φ.set f F' := by
  unfold FEnv.set
  congr 1
  funext g
  dsimp only
  by_cases h : g = f
  · rw [if_pos h, if_pos h]
  · rw [if_neg h, if_neg h, if_neg h]
/-- THE RULE for a def that calls itself: F j is what it is worth, j levels deep -/
theorem Md.addRec (M : Md Γ Φ G ec P w K mg base k) {x : Str} {st : Stmt} {f : Nat} {N ps : List Str} {F : Nat → FnDen} {ir : List IS} (d : DefIn K mg x ps st) (hu : (Γ.fns.all (fun p => p.2.1 != f || p.1 == x) && (Γ.fns.lookup x == some (f, ps.length))) = true)
    (S : FnScope N ps (defScope st)) (hc : chkSs Γ (cnOf N st) ir (defBody st) = true) (h0 : ∀ args, F 0 args = .bad) (hF : ∀ j args, F (j + 1) args ≠ .bad → ∃ n, funOf N.length ps.length (denSs (Φ.set f (F j)) n ir) args = F (j + 1) args) : ∀ j, Md Γ (Φ.set f (F j)) G ec P w K mg base (k + j)
  | 0 => M.bad h0
  | j + 1 => by
    have h := (Md.addRec M d hu S hc h0 hF j).addD (F := F (j + 1)) d hu S hc (hF j)
    rw [FEnv.set_set] at h
    exact h
theorem Md.lawD (M : Md Γ Φ G ec P w K mg base k) {x : Str} {st : Stmt} {N ps : List Str} {F : FnDen} {ir : List IS} (d : DefIn K mg x ps st) (S : FnScope N ps (defScope st)) (hc : chkSs Γ (cnOf N st) ir (defBody st) = true)
    (hF : ∀ args, F args ≠ .bad → ∃ j, funOf N.length ps.length (denSs Φ j ir) args = F args) : ∃ (a : Addr) (fd : FuncData), FnM K mg x ps.length a fd ps ∧ Fun K x x st a fd ∧ FnOk P w K mg base (L2N.CX P w) (k + 1) a fd ps (spOf K G ec ps.length F) := by
  obtain ⟨a, fd, m, Fu⟩ := d.ex
  refine ⟨a, fd, m, Fu, fn_ok Fu S hF fun X A W j hP hw hK hmg hba at' => ?_⟩
  have Ft := M.fit hP hw hK hmg hba at' S.nd S.kind
  have := snd_Ss Ft at'.po j ir hc A
  rw [hK] at this
  exact this
/-- the same of a law that hands lambdas on -/
theorem Md.lawDA (M : Md Γ Φ G ec P w K mg base k) {x : Str} {st : Stmt} {N ps : List Str} {F : FnDen} {ir : List IS} (d : DefIn K mg x ps st) (S : FnScope N ps (defScope st)) (hc : chkSs Γ (cnOfA N st) ir (defBody st) = true)
    (ha : ∀ (a : Addr) (fd : FuncData), mg x = some (.ref a) → Fun K x x st a fd → ∀ y m, Γ.atts.lookup y = some m → AttOk P w K mg base fd.code (x ++ ".<locals>.") k G ec Φ.nm y m)
    (hF : ∀ args, F args ≠ .bad → ∃ j, funOf N.length ps.length (denSs Φ j ir) args = F args) : ∃ (a : Addr) (fd : FuncData), FnM K mg x ps.length a fd ps ∧ Fun K x x st a fd ∧ FnOk P w K mg base (L2N.CX P w) (k + 3) a fd ps (spOf K G ec ps.length F) := by
  obtain ⟨a, fd, m, Fu⟩ := d.ex
  refine ⟨a, fd, m, Fu, fn_ok Fu S hF fun X A W j hP hw hK hmg hba at' => ?_⟩
  have Ft := M.fitA hP hw hK hmg hba at' S.nd S.kind (ha a fd m.g Fu)
  have := snd_Ss Ft at'.po j ir hc A
  rw [hK] at this
  exact this
theorem bad_args {ds : List D} : True := trivial
end
theorem inj_of_nodup {α β : Type} {f : α → β} : ∀ {l : List α}, (l.map f).Nodup → ∀ {a b : α}, a ∈ l → b ∈ l → f a = f b → a = b
  | [], _, _, _, ha, _, _ => nomatch ha
  | x :: l, h, a, b, ha, hb, e => by
    rw [List.map_cons, List.nodup_cons] at h
    rcases List.mem_cons.mp ha with ea | ha
    · rcases List.mem_cons.mp hb with eb | hb
      · rw [ea, eb]
      · exact absurd (List.mem_map.mpr ⟨b, hb, by rw [← e, ea]⟩) h.1
    · rcases List.mem_cons.mp hb with eb | hb
      · exact absurd (List.mem_map.mpr ⟨a, ha, by rw [e, eb]⟩) h.1
      · exact inj_of_nodup h.2 ha hb e
end Fw
namespace Fw
open PySem PySem.Spec L2
theorem bad_P {f : List D → Option Res} (h : ∀ ds, f ds = none) : ∀ args, fnP f args = .bad := fun args => by
  unfold fnP
  cases dargs args with
  | none => rfl
  | some ds => dsimp only; rw [h]
theorem bad_V {f : Vt → List D → Option (D × Vt)} (h : ∀ v ds, f v ds = none) : ∀ args, fnV f args = .bad := fun args => by
  unfold fnV
  split
  · rename_i p a b rest
    cases dargs rest with
    | none => rfl
    | some ds => dsimp only; rw [h]
  · rfl
/-- a def by its own meaning, j levels deep -/
def recF (Φ : FEnv) (f N k : Nat) (ir : List IS) : Nat → FnDen
  | 0 => badE
  | j + 1 => funOf N k (denSs (Φ.set f (recF Φ f N k ir j)) 0 ir)
section
variable {Γ : Gm} {Φ : FEnv} {G : Hp → Prop} {ec : Nat → Addr} {P : Program} {w : World} {K : PySem.W.Frag} {mg : Str → Option Value} {base : Heap} {k : Nat}
theorem Md.addRecF (M : Md Γ Φ G ec P w K mg base k) {x : Str} {st : Stmt} {f : Nat} {N ps : List Str} {ir : List IS} (d : DefIn K mg x ps st) (hu : (Γ.fns.all (fun p => p.2.1 != f || p.1 == x) && (Γ.fns.lookup x == some (f, ps.length))) = true)
    (S : FnScope N ps (defScope st)) (hc : chkSs Γ (cnOf N st) ir (defBody st) = true) (j : Nat) : Md Γ (Φ.set f (recF Φ f N.length ps.length ir j)) G ec P w K mg base (k + j) :=
  M.addRec (F := recF Φ f N.length ps.length ir) d hu S hc (fun _ => rfl) (fun j args _ => ⟨0, rfl⟩) j
end
/-- a def without arguments that gives True -/
def wrF : FnDen := fun args => match args with
  | [] => .ret (.d (.bool true)) []
  | _ => .bad
def isTrueRet : FOut → Bool
  | .ret (.d (.bool true)) [] => true
  | _ => false
theorem isTrueRet_eq {x : FOut} (h : isTrueRet x = true) : x = .ret (.d (.bool true)) [] := by
  unfold isTrueRet at h
  split at h
  · rfl
  · cases h
theorem wr_ok {Φ : FEnv} {N : Nat} {ir : List IS} (h : isTrueRet (funOf N 0 (denSs Φ 0 ir) []) = true) : ∀ args, wrF args ≠ .bad → ∃ j, funOf N 0 (denSs Φ j ir) args = wrF args := fun args ha => by
  cases args with
  | nil => exact ⟨0, isTrueRet_eq h⟩
  | cons a r => exact absurd rfl ha
end Fw
namespace K
open PySem PySem.Spec L2 Fw
def z_down : PySem.Str := "down"
@[simp] theorem z_down_ok : PyData.canLay0 (.str z_down) = true := by decide +kernel
def z_near : PySem.Str := "near"
@[simp] theorem z_near_ok : PyData.canLay0 (.str z_near) = true := by decide +kernel
def z_stops : PySem.Str := "stops"
@[simp] theorem z_stops_ok : PyData.canLay0 (.str z_stops) = true := by decide +kernel
def z_turns : PySem.Str := "turns"
@[simp] theorem z_turns_ok : PyData.canLay0 (.str z_turns) = true := by decide +kernel
def z_slip : PySem.Str := "slip"
@[simp] theorem z_slip_ok : PyData.canLay0 (.str z_slip) = true := by decide +kernel
def z_caught : PySem.Str := "caught"
@[simp] theorem z_caught_ok : PyData.canLay0 (.str z_caught) = true := by decide +kernel
def z_shows : PySem.Str := "shows"
@[simp] theorem z_shows_ok : PyData.canLay0 (.str z_shows) = true := by decide +kernel
def z_ : PySem.Str := ""
@[simp] theorem z__ok : PyData.canLay0 (.str z_) = true := by decide +kernel
def z_Stops : PySem.Str := "Stops"
@[simp] theorem z_Stops_ok : PyData.canLay0 (.str z_Stops) = true := by decide +kernel
def z_board_value : PySem.Str := "board value"
@[simp] theorem z_board_value_ok : PyData.canLay0 (.str z_board_value) = true := by decide +kernel
def z_seen : PySem.Str := "seen"
@[simp] theorem z_seen_ok : PyData.canLay0 (.str z_seen) = true := by decide +kernel
@[simp] theorem z_down_nb_z_near : (z_down == z_near) = false := by decide +kernel
@[simp] theorem z_near_nb_z_down : (z_near == z_down) = false := by decide +kernel
@[simp] theorem z_down_ne_z_near : ¬ (z_down = z_near) := by decide +kernel
@[simp] theorem z_near_ne_z_down : ¬ (z_near = z_down) := by decide +kernel
@[simp] theorem z_down_nb_z_stops : (z_down == z_stops) = false := by decide +kernel
@[simp] theorem z_stops_nb_z_down : (z_stops == z_down) = false := by decide +kernel
@[simp] theorem z_down_ne_z_stops : ¬ (z_down = z_stops) := by decide +kernel
@[simp] theorem z_stops_ne_z_down : ¬ (z_stops = z_down) := by decide +kernel
@[simp] theorem z_down_nb_z_turns : (z_down == z_turns) = false := by decide +kernel
@[simp] theorem z_turns_nb_z_down : (z_turns == z_down) = false := by decide +kernel
@[simp] theorem z_down_ne_z_turns : ¬ (z_down = z_turns) := by decide +kernel
@[simp] theorem z_turns_ne_z_down : ¬ (z_turns = z_down) := by decide +kernel
@[simp] theorem z_down_nb_z_slip : (z_down == z_slip) = false := by decide +kernel
@[simp] theorem z_slip_nb_z_down : (z_slip == z_down) = false := by decide +kernel
@[simp] theorem z_down_ne_z_slip : ¬ (z_down = z_slip) := by decide +kernel
@[simp] theorem z_slip_ne_z_down : ¬ (z_slip = z_down) := by decide +kernel
@[simp] theorem z_down_nb_z_caught : (z_down == z_caught) = false := by decide +kernel
@[simp] theorem z_caught_nb_z_down : (z_caught == z_down) = false := by decide +kernel
@[simp] theorem z_down_ne_z_caught : ¬ (z_down = z_caught) := by decide +kernel
@[simp] theorem z_caught_ne_z_down : ¬ (z_caught = z_down) := by decide +kernel
@[simp] theorem z_down_nb_z_shows : (z_down == z_shows) = false := by decide +kernel
@[simp] theorem z_shows_nb_z_down : (z_shows == z_down) = false := by decide +kernel
@[simp] theorem z_down_ne_z_shows : ¬ (z_down = z_shows) := by decide +kernel
@[simp] theorem z_shows_ne_z_down : ¬ (z_shows = z_down) := by decide +kernel
@[simp] theorem z_down_nb_z_ : (z_down == z_) = false := by decide +kernel
@[simp] theorem z__nb_z_down : (z_ == z_down) = false := by decide +kernel
@[simp] theorem z_down_ne_z_ : ¬ (z_down = z_) := by decide +kernel
@[simp] theorem z__ne_z_down : ¬ (z_ = z_down) := by decide +kernel
@[simp] theorem z_down_nb_z_Stops : (z_down == z_Stops) = false := by decide +kernel
@[simp] theorem z_Stops_nb_z_down : (z_Stops == z_down) = false := by decide +kernel
@[simp] theorem z_down_ne_z_Stops : ¬ (z_down = z_Stops) := by decide +kernel
@[simp] theorem z_Stops_ne_z_down : ¬ (z_Stops = z_down) := by decide +kernel
@[simp] theorem z_down_nb_z_board_value : (z_down == z_board_value) = false := by decide +kernel
@[simp] theorem z_board_value_nb_z_down : (z_board_value == z_down) = false := by decide +kernel
@[simp] theorem z_down_ne_z_board_value : ¬ (z_down = z_board_value) := by decide +kernel
@[simp] theorem z_board_value_ne_z_down : ¬ (z_board_value = z_down) := by decide +kernel
@[simp] theorem z_down_nb_z_seen : (z_down == z_seen) = false := by decide +kernel
@[simp] theorem z_seen_nb_z_down : (z_seen == z_down) = false := by decide +kernel
@[simp] theorem z_down_ne_z_seen : ¬ (z_down = z_seen) := by decide +kernel
@[simp] theorem z_seen_ne_z_down : ¬ (z_seen = z_down) := by decide +kernel
@[simp] theorem z_near_nb_z_stops : (z_near == z_stops) = false := by decide +kernel
@[simp] theorem z_stops_nb_z_near : (z_stops == z_near) = false := by decide +kernel
@[simp] theorem z_near_ne_z_stops : ¬ (z_near = z_stops) := by decide +kernel
@[simp] theorem z_stops_ne_z_near : ¬ (z_stops = z_near) := by decide +kernel
@[simp] theorem z_near_nb_z_turns : (z_near == z_turns) = false := by decide +kernel
@[simp] theorem z_turns_nb_z_near : (z_turns == z_near) = false := by decide +kernel
@[simp] theorem z_near_ne_z_turns : ¬ (z_near = z_turns) := by decide +kernel
@[simp] theorem z_turns_ne_z_near : ¬ (z_turns = z_near) := by decide +kernel
@[simp] theorem z_near_nb_z_slip : (z_near == z_slip) = false := by decide +kernel
@[simp] theorem z_slip_nb_z_near : (z_slip == z_near) = false := by decide +kernel
@[simp] theorem z_near_ne_z_slip : ¬ (z_near = z_slip) := by decide +kernel
@[simp] theorem z_slip_ne_z_near : ¬ (z_slip = z_near) := by decide +kernel
@[simp] theorem z_near_nb_z_caught : (z_near == z_caught) = false := by decide +kernel
@[simp] theorem z_caught_nb_z_near : (z_caught == z_near) = false := by decide +kernel
@[simp] theorem z_near_ne_z_caught : ¬ (z_near = z_caught) := by decide +kernel
@[simp] theorem z_caught_ne_z_near : ¬ (z_caught = z_near) := by decide +kernel
@[simp] theorem z_near_nb_z_shows : (z_near == z_shows) = false := by decide +kernel
@[simp] theorem z_shows_nb_z_near : (z_shows == z_near) = false := by decide +kernel
@[simp] theorem z_near_ne_z_shows : ¬ (z_near = z_shows) := by decide +kernel
@[simp] theorem z_shows_ne_z_near : ¬ (z_shows = z_near) := by decide +kernel
@[simp] theorem z_near_nb_z_ : (z_near == z_) = false := by decide +kernel
@[simp] theorem z__nb_z_near : (z_ == z_near) = false := by decide +kernel
@[simp] theorem z_near_ne_z_ : ¬ (z_near = z_) := by decide +kernel
@[simp] theorem z__ne_z_near : ¬ (z_ = z_near) := by decide +kernel
@[simp] theorem z_near_nb_z_Stops : (z_near == z_Stops) = false := by decide +kernel
@[simp] theorem z_Stops_nb_z_near : (z_Stops == z_near) = false := by decide +kernel
@[simp] theorem z_near_ne_z_Stops : ¬ (z_near = z_Stops) := by decide +kernel
@[simp] theorem z_Stops_ne_z_near : ¬ (z_Stops = z_near) := by decide +kernel
@[simp] theorem z_near_nb_z_board_value : (z_near == z_board_value) = false := by decide +kernel
@[simp] theorem z_board_value_nb_z_near : (z_board_value == z_near) = false := by decide +kernel
@[simp] theorem z_near_ne_z_board_value : ¬ (z_near = z_board_value) := by decide +kernel
@[simp] theorem z_board_value_ne_z_near : ¬ (z_board_value = z_near) := by decide +kernel
@[simp] theorem z_near_nb_z_seen : (z_near == z_seen) = false := by decide +kernel
@[simp] theorem z_seen_nb_z_near : (z_seen == z_near) = false := by decide +kernel
@[simp] theorem z_near_ne_z_seen : ¬ (z_near = z_seen) := by decide +kernel
@[simp] theorem z_seen_ne_z_near : ¬ (z_seen = z_near) := by decide +kernel
@[simp] theorem z_stops_nb_z_turns : (z_stops == z_turns) = false := by decide +kernel
@[simp] theorem z_turns_nb_z_stops : (z_turns == z_stops) = false := by decide +kernel
@[simp] theorem z_stops_ne_z_turns : ¬ (z_stops = z_turns) := by decide +kernel
@[simp] theorem z_turns_ne_z_stops : ¬ (z_turns = z_stops) := by decide +kernel
@[simp] theorem z_stops_nb_z_slip : (z_stops == z_slip) = false := by decide +kernel
@[simp] theorem z_slip_nb_z_stops : (z_slip == z_stops) = false := by decide +kernel
@[simp] theorem z_stops_ne_z_slip : ¬ (z_stops = z_slip) := by decide +kernel
@[simp] theorem z_slip_ne_z_stops : ¬ (z_slip = z_stops) := by decide +kernel
@[simp] theorem z_stops_nb_z_caught : (z_stops == z_caught) = false := by decide +kernel
@[simp] theorem z_caught_nb_z_stops : (z_caught == z_stops) = false := by decide +kernel
@[simp] theorem z_stops_ne_z_caught : ¬ (z_stops = z_caught) := by decide +kernel
@[simp] theorem z_caught_ne_z_stops : ¬ (z_caught = z_stops) := by decide +kernel
@[simp] theorem z_stops_nb_z_shows : (z_stops == z_shows) = false := by decide +kernel
@[simp] theorem z_shows_nb_z_stops : (z_shows == z_stops) = false := by decide +kernel
@[simp] theorem z_stops_ne_z_shows : ¬ (z_stops = z_shows) := by decide +kernel
@[simp] theorem z_shows_ne_z_stops : ¬ (z_shows = z_stops) := by decide +kernel
@[simp] theorem z_stops_nb_z_ : (z_stops == z_) = false := by decide +kernel
@[simp] theorem z__nb_z_stops : (z_ == z_stops) = false := by decide +kernel
@[simp] theorem z_stops_ne_z_ : ¬ (z_stops = z_) := by decide +kernel
@[simp] theorem z__ne_z_stops : ¬ (z_ = z_stops) := by decide +kernel
@[simp] theorem z_stops_nb_z_Stops : (z_stops == z_Stops) = false := by decide +kernel
@[simp] theorem z_Stops_nb_z_stops : (z_Stops == z_stops) = false := by decide +kernel
@[simp] theorem z_stops_ne_z_Stops : ¬ (z_stops = z_Stops) := by decide +kernel
@[simp] theorem z_Stops_ne_z_stops : ¬ (z_Stops = z_stops) := by decide +kernel
@[simp] theorem z_stops_nb_z_board_value : (z_stops == z_board_value) = false := by decide +kernel
@[simp] theorem z_board_value_nb_z_stops : (z_board_value == z_stops) = false := by decide +kernel
@[simp] theorem z_stops_ne_z_board_value : ¬ (z_stops = z_board_value) := by decide +kernel
@[simp] theorem z_board_value_ne_z_stops : ¬ (z_board_value = z_stops) := by decide +kernel
@[simp] theorem z_stops_nb_z_seen : (z_stops == z_seen) = false := by decide +kernel
@[simp] theorem z_seen_nb_z_stops : (z_seen == z_stops) = false := by decide +kernel
@[simp] theorem z_stops_ne_z_seen : ¬ (z_stops = z_seen) := by decide +kernel
@[simp] theorem z_seen_ne_z_stops : ¬ (z_seen = z_stops) := by decide +kernel
@[simp] theorem z_turns_nb_z_slip : (z_turns == z_slip) = false := by decide +kernel
@[simp] theorem z_slip_nb_z_turns : (z_slip == z_turns) = false := by decide +kernel
@[simp] theorem z_turns_ne_z_slip : ¬ (z_turns = z_slip) := by decide +kernel
@[simp] theorem z_slip_ne_z_turns : ¬ (z_slip = z_turns) := by decide +kernel
@[simp] theorem z_turns_nb_z_caught : (z_turns == z_caught) = false := by decide +kernel
@[simp] theorem z_caught_nb_z_turns : (z_caught == z_turns) = false := by decide +kernel
@[simp] theorem z_turns_ne_z_caught : ¬ (z_turns = z_caught) := by decide +kernel
@[simp] theorem z_caught_ne_z_turns : ¬ (z_caught = z_turns) := by decide +kernel
@[simp] theorem z_turns_nb_z_shows : (z_turns == z_shows) = false := by decide +kernel
@[simp] theorem z_shows_nb_z_turns : (z_shows == z_turns) = false := by decide +kernel
@[simp] theorem z_turns_ne_z_shows : ¬ (z_turns = z_shows) := by decide +kernel
@[simp] theorem z_shows_ne_z_turns : ¬ (z_shows = z_turns) := by decide +kernel
@[simp] theorem z_turns_nb_z_ : (z_turns == z_) = false := by decide +kernel
@[simp] theorem z__nb_z_turns : (z_ == z_turns) = false := by decide +kernel
@[simp] theorem z_turns_ne_z_ : ¬ (z_turns = z_) := by decide +kernel
@[simp] theorem z__ne_z_turns : ¬ (z_ = z_turns) := by decide +kernel
@[simp] theorem z_turns_nb_z_Stops : (z_turns == z_Stops) = false := by decide +kernel
@[simp] theorem z_Stops_nb_z_turns : (z_Stops == z_turns) = false := by decide +kernel
@[simp] theorem z_turns_ne_z_Stops : ¬ (z_turns = z_Stops) := by decide +kernel
@[simp] theorem z_Stops_ne_z_turns : ¬ (z_Stops = z_turns) := by decide +kernel
@[simp] theorem z_turns_nb_z_board_value : (z_turns == z_board_value) = false := by decide +kernel
@[simp] theorem z_board_value_nb_z_turns : (z_board_value == z_turns) = false := by decide +kernel
@[simp] theorem z_turns_ne_z_board_value : ¬ (z_turns = z_board_value) := by decide +kernel
@[simp] theorem z_board_value_ne_z_turns : ¬ (z_board_value = z_turns) := by decide +kernel
@[simp] theorem z_turns_nb_z_seen : (z_turns == z_seen) = false := by decide +kernel
@[simp] theorem z_seen_nb_z_turns : (z_seen == z_turns) = false := by decide +kernel
@[simp] theorem z_turns_ne_z_seen : ¬ (z_turns = z_seen) := by decide +kernel
@[simp] theorem z_seen_ne_z_turns : ¬ (z_seen = z_turns) := by decide +kernel
@[simp] theorem z_slip_nb_z_caught : (z_slip == z_caught) = false := by decide +kernel
@[simp] theorem z_caught_nb_z_slip : (z_caught == z_slip) = false := by decide +kernel
@[simp] theorem z_slip_ne_z_caught : ¬ (z_slip = z_caught) := by decide +kernel
@[simp] theorem z_caught_ne_z_slip : ¬ (z_caught = z_slip) := by decide +kernel
@[simp] theorem z_slip_nb_z_shows : (z_slip == z_shows) = false := by decide +kernel
@[simp] theorem z_shows_nb_z_slip : (z_shows == z_slip) = false := by decide +kernel
@[simp] theorem z_slip_ne_z_shows : ¬ (z_slip = z_shows) := by decide +kernel
@[simp] theorem z_shows_ne_z_slip : ¬ (z_shows = z_slip) := by decide +kernel
@[simp] theorem z_slip_nb_z_ : (z_slip == z_) = false := by decide +kernel
@[simp] theorem z__nb_z_slip : (z_ == z_slip) = false := by decide +kernel
@[simp] theorem z_slip_ne_z_ : ¬ (z_slip = z_) := by decide +kernel
@[simp] theorem z__ne_z_slip : ¬ (z_ = z_slip) := by decide +kernel
@[simp] theorem z_slip_nb_z_Stops : (z_slip == z_Stops) = false := by decide +kernel
@[simp] theorem z_Stops_nb_z_slip : (z_Stops == z_slip) = false := by decide +kernel
@[simp] theorem z_slip_ne_z_Stops : ¬ (z_slip = z_Stops) := by decide +kernel
@[simp] theorem z_Stops_ne_z_slip : ¬ (z_Stops = z_slip) := by decide +kernel
@[simp] theorem z_slip_nb_z_board_value : (z_slip == z_board_value) = false := by decide +kernel
@[simp] theorem z_board_value_nb_z_slip : (z_board_value == z_slip) = false := by decide +kernel
@[simp] theorem z_slip_ne_z_board_value : ¬ (z_slip = z_board_value) := by decide +kernel
@[simp] theorem z_board_value_ne_z_slip : ¬ (z_board_value = z_slip) := by decide +kernel
@[simp] theorem z_slip_nb_z_seen : (z_slip == z_seen) = false := by decide +kernel
@[simp] theorem z_seen_nb_z_slip : (z_seen == z_slip) = false := by decide +kernel
@[simp] theorem z_slip_ne_z_seen : ¬ (z_slip = z_seen) := by decide +kernel
@[simp] theorem z_seen_ne_z_slip : ¬ (z_seen = z_slip) := by decide +kernel
@[simp] theorem z_caught_nb_z_shows : (z_caught == z_shows) = false := by decide +kernel
@[simp] theorem z_shows_nb_z_caught : (z_shows == z_caught) = false := by decide +kernel
@[simp] theorem z_caught_ne_z_shows : ¬ (z_caught = z_shows) := by decide +kernel
@[simp] theorem z_shows_ne_z_caught : ¬ (z_shows = z_caught) := by decide +kernel
@[simp] theorem z_caught_nb_z_ : (z_caught == z_) = false := by decide +kernel
@[simp] theorem z__nb_z_caught : (z_ == z_caught) = false := by decide +kernel
@[simp] theorem z_caught_ne_z_ : ¬ (z_caught = z_) := by decide +kernel
@[simp] theorem z__ne_z_caught : ¬ (z_ = z_caught) := by decide +kernel
@[simp] theorem z_caught_nb_z_Stops : (z_caught == z_Stops) = false := by decide +kernel
@[simp] theorem z_Stops_nb_z_caught : (z_Stops == z_caught) = false := by decide +kernel
@[simp] theorem z_caught_ne_z_Stops : ¬ (z_caught = z_Stops) := by decide +kernel
@[simp] theorem z_Stops_ne_z_caught : ¬ (z_Stops = z_caught) := by decide +kernel
@[simp] theorem z_caught_nb_z_board_value : (z_caught == z_board_value) = false := by decide +kernel
@[simp] theorem z_board_value_nb_z_caught : (z_board_value == z_caught) = false := by decide +kernel
@[simp] theorem z_caught_ne_z_board_value : ¬ (z_caught = z_board_value) := by decide +kernel
@[simp] theorem z_board_value_ne_z_caught : ¬ (z_board_value = z_caught) := by decide +kernel
@[simp] theorem z_caught_nb_z_seen : (z_caught == z_seen) = false := by decide +kernel
@[simp] theorem z_seen_nb_z_caught : (z_seen == z_caught) = false := by decide +kernel
@[simp] theorem z_caught_ne_z_seen : ¬ (z_caught = z_seen) := by decide +kernel
@[simp] theorem z_seen_ne_z_caught : ¬ (z_seen = z_caught) := by decide +kernel
@[simp] theorem z_shows_nb_z_ : (z_shows == z_) = false := by decide +kernel
@[simp] theorem z__nb_z_shows : (z_ == z_shows) = false := by decide +kernel
@[simp] theorem z_shows_ne_z_ : ¬ (z_shows = z_) := by decide +kernel
@[simp] theorem z__ne_z_shows : ¬ (z_ = z_shows) := by decide +kernel
@[simp] theorem z_shows_nb_z_Stops : (z_shows == z_Stops) = false := by decide +kernel
@[simp] theorem z_Stops_nb_z_shows : (z_Stops == z_shows) = false := by decide +kernel
@[simp] theorem z_shows_ne_z_Stops : ¬ (z_shows = z_Stops) := by decide +kernel
@[simp] theorem z_Stops_ne_z_shows : ¬ (z_Stops = z_shows) := by decide +kernel
@[simp] theorem z_shows_nb_z_board_value : (z_shows == z_board_value) = false := by decide +kernel
@[simp] theorem z_board_value_nb_z_shows : (z_board_value == z_shows) = false := by decide +kernel
@[simp] theorem z_shows_ne_z_board_value : ¬ (z_shows = z_board_value) := by decide +kernel
@[simp] theorem z_board_value_ne_z_shows : ¬ (z_board_value = z_shows) := by decide +kernel
@[simp] theorem z_shows_nb_z_seen : (z_shows == z_seen) = false := by decide +kernel
@[simp] theorem z_seen_nb_z_shows : (z_seen == z_shows) = false := by decide +kernel
@[simp] theorem z_shows_ne_z_seen : ¬ (z_shows = z_seen) := by decide +kernel
@[simp] theorem z_seen_ne_z_shows : ¬ (z_seen = z_shows) := by decide +kernel
@[simp] theorem z__nb_z_Stops : (z_ == z_Stops) = false := by decide +kernel
@[simp] theorem z_Stops_nb_z_ : (z_Stops == z_) = false := by decide +kernel
@[simp] theorem z__ne_z_Stops : ¬ (z_ = z_Stops) := by decide +kernel
@[simp] theorem z_Stops_ne_z_ : ¬ (z_Stops = z_) := by decide +kernel
@[simp] theorem z__nb_z_board_value : (z_ == z_board_value) = false := by decide +kernel
@[simp] theorem z_board_value_nb_z_ : (z_board_value == z_) = false := by decide +kernel
@[simp] theorem z__ne_z_board_value : ¬ (z_ = z_board_value) := by decide +kernel
@[simp] theorem z_board_value_ne_z_ : ¬ (z_board_value = z_) := by decide +kernel
@[simp] theorem z__nb_z_seen : (z_ == z_seen) = false := by decide +kernel
@[simp] theorem z_seen_nb_z_ : (z_seen == z_) = false := by decide +kernel
@[simp] theorem z__ne_z_seen : ¬ (z_ = z_seen) := by decide +kernel
@[simp] theorem z_seen_ne_z_ : ¬ (z_seen = z_) := by decide +kernel
@[simp] theorem z_Stops_nb_z_board_value : (z_Stops == z_board_value) = false := by decide +kernel
@[simp] theorem z_board_value_nb_z_Stops : (z_board_value == z_Stops) = false := by decide +kernel
@[simp] theorem z_Stops_ne_z_board_value : ¬ (z_Stops = z_board_value) := by decide +kernel
@[simp] theorem z_board_value_ne_z_Stops : ¬ (z_board_value = z_Stops) := by decide +kernel
@[simp] theorem z_Stops_nb_z_seen : (z_Stops == z_seen) = false := by decide +kernel
@[simp] theorem z_seen_nb_z_Stops : (z_seen == z_Stops) = false := by decide +kernel
@[simp] theorem z_Stops_ne_z_seen : ¬ (z_Stops = z_seen) := by decide +kernel
@[simp] theorem z_seen_ne_z_Stops : ¬ (z_seen = z_Stops) := by decide +kernel
@[simp] theorem z_board_value_nb_z_seen : (z_board_value == z_seen) = false := by decide +kernel
@[simp] theorem z_seen_nb_z_board_value : (z_seen == z_board_value) = false := by decide +kernel
@[simp] theorem z_board_value_ne_z_seen : ¬ (z_board_value = z_seen) := by decide +kernel
@[simp] theorem z_seen_ne_z_board_value : ¬ (z_seen = z_board_value) := by decide +kernel
def N_is_whole : List PySem.Str := ["value", "low", "high"]
def ir_is_whole : List IS := [.ret (.and (.isinst "int" (.var 0)) (.and (.not (.isinst "bool" (.var 0))) (.chain .LtE .LtE (.var 1) (.var 0) (.var 2))))]
def N_is_slip : List PySem.Str := ["value"]
def ir_is_slip : List IS := [.ifs (.or (.not (.isinst "tuple" (.var 0))) (.cmp .NotEq (.prim .len [.var 0]) (.cst (.int 2)))) [.ret (.cst (.bool false))] [], .ret (.and (.call 0 3 [.ix (.var 0) (.cst (.int 0)), .neg (.cst (.int 20)), .cst (.int 20)]) (.call 0 3 [.ix (.var 0) (.cst (.int 1)), .ix (.var 0) (.cst (.int 0)), .cst (.int 20)]))]
def N_is_hand : List PySem.Str := ["value"]
def ir_is_hand : List IS := [.ifs (.and (.cmp .Eq (.var 0) (.tup [])) (.isinst "tuple" (.var 0))) [.ret (.cst (.bool true))] [], .ifs (.or (.not (.isinst "tuple" (.var 0))) (.or (.cmp .NotEq (.prim .len [.var 0]) (.cst (.int 2))) (.not (.isinst "str" (.ix (.var 0) (.cst (.int 0))))))) [.ret (.cst (.bool false))] [], .ret (.and (.cmp .In (.ix (.var 0) (.cst (.int 0))) (.tup [.cst (.str z_down), .cst (.str z_near)])) (.call 0 3 [.ix (.var 0) (.cst (.int 1)), .cst (.int 2), .cst (.int 10)]))]
def N_is_counter : List PySem.Str := ["value", "deep", "kind", "low", "high", "hand", "parts", "part"]
def ir_is_counter : List IS := [.ifs (.or (.not (.isinst "tuple" (.var 0))) (.or (.cmp .NotEq (.prim .len [.var 0]) (.cst (.int 5))) (.not (.isinst "str" (.ix (.var 0) (.cst (.int 0))))))) [.ret (.cst (.bool false))] [], .asg (.tup [.name 2, .name 3, .name 4, .name 5, .name 6]) (.var 0), .ifs (.or (.cmp .NotIn (.var 2) (.tup [.cst (.str z_stops), .cst (.str z_turns)])) (.or (.not (.call 0 3 [.var 3, .neg (.cst (.int 99)), .cst (.int 0)])) (.not (.call 0 3 [.var 4, .prim .max [.cst (.int 0), .bin .Add (.var 3) (.cst (.int 1))], .cst (.int 99)])))) [.ret (.cst (.bool false))] [], .ifs (.or (.not (.call 2 1 [.var 5])) (.or (.not (.isinst "tuple" (.var 6))) (.not (.chain .LtE .LtE (.cst (.int 1)) (.prim .len [.var 6]) (.cst (.int 4)))))) [.ret (.cst (.bool false))] [], .ret (.prim .all [.comp (.or (.call 1 1 [.var 7]) (.and (.cmp .Gt (.var 1) (.cst (.int 0))) (.call 3 2 [.var 7, .bin .Sub (.var 1) (.cst (.int 1))]))) (.name 7) (.seq (.var 6)) (.hole) [7]])]
def N_slips_of : List PySem.Str := ["part", "found", "one"]
def ir_slips_of : List IS := [.ifs (.cmp .Eq (.prim .len [.var 0]) (.cst (.int 2))) [.ret (.tup [.var 0])] [], .asg (.name 1) (.tup []), .for_ (.name 2) (.seq (.ix (.var 0) (.cst (.int 4)))) [.asg (.name 1) (.bin .Add (.var 1) (.call 4 1 [.var 2]))], .ret (.var 1)]
def N_counters_of : List PySem.Str := ["part", "found", "one"]
def ir_counters_of : List IS := [.ifs (.cmp .Eq (.prim .len [.var 0]) (.cst (.int 2))) [.ret (.tup [])] [], .asg (.name 1) (.tup [.var 0]), .for_ (.name 2) (.seq (.ix (.var 0) (.cst (.int 4)))) [.asg (.name 1) (.bin .Add (.var 1) (.call 5 1 [.var 2]))], .ret (.var 1)]
def N_is_board : List PySem.Str := ["value"]
def ir_is_board : List IS := [.ifs (.or (.not (.call 3 2 [.var 0, .cst (.int 2)])) (.cmp .NotEq (.ix (.var 0) (.cst (.int 3))) (.tup []))) [.ret (.cst (.bool false))] [], .ret (.and (.chain .LtE .LtE (.cst (.int 1)) (.prim .len [.call 4 1 [.var 0]]) (.cst (.int 8))) (.cmp .LtE (.prim .len [.call 5 1 [.var 0]]) (.cst (.int 6))))]
def N_need_board : List PySem.Str := ["board"]
def ir_need_board : List IS := [.ifs (.not (.call 6 1 [.var 0])) [.raise 1] []]
def N_is_fact : List PySem.Str := ["board", "value", "many"]
def ir_is_fact : List IS := [.ifs (.or (.not (.isinst "tuple" (.var 1))) (.or (.cmp .NotIn (.prim .len [.var 1]) (.tup [.cst (.int 3), .cst (.int 4)])) (.not (.isinst "str" (.ix (.var 1) (.cst (.int 0))))))) [.ret (.cst (.bool false))] [], .asg (.name 2) (.ite (.cmp .Eq (.ix (.var 1) (.cst (.int 0))) (.cst (.str z_slip))) (.prim .len [.call 4 1 [.var 0]]) (.prim .len [.call 5 1 [.var 0]])), .ifs (.not (.call 0 3 [.ix (.var 1) (.cst (.int 1)), .cst (.int 0), .bin .Sub (.var 2) (.cst (.int 1))])) [.ret (.cst (.bool false))] [], .ifs (.cmp .Eq (.prim .len [.var 1]) (.cst (.int 3))) [.ret (.and (.cmp .Eq (.ix (.var 1) (.cst (.int 0))) (.cst (.str z_caught))) (.isinst "bool" (.ix (.var 1) (.cst (.int 2)))))] [], .ifs (.or (.cmp .NotIn (.ix (.var 1) (.cst (.int 0))) (.tup [.cst (.str z_shows), .cst (.str z_slip)])) (.not (.call 0 3 [.ix (.var 1) (.cst (.int 2)), .neg (.cst (.int 999)), .cst (.int 999)]))) [.ret (.cst (.bool false))] [], .ret (.call 0 3 [.ix (.var 1) (.cst (.int 3)), .ix (.var 1) (.cst (.int 2)), .cst (.int 999)])]
def N_are_facts : List PySem.Str := ["board", "value", "fact"]
def ir_are_facts : List IS := [.expr (.call 7 1 [.var 0]), .ifs (.or (.not (.isinst "tuple" (.var 1))) (.cmp .Gt (.prim .len [.var 1]) (.cst (.int 6)))) [.ret (.cst (.bool false))] [], .ret (.prim .all [.comp (.call 8 2 [.var 0, .var 2]) (.name 2) (.seq (.var 1)) (.hole) [2]])]
def N_slips : List PySem.Str := ["board"]
def ir_slips : List IS := [.expr (.call 7 1 [.var 0]), .ret (.prim .list [.call 4 1 [.var 0]])]
def N_counters : List PySem.Str := ["board"]
def ir_counters : List IS := [.expr (.call 7 1 [.var 0]), .ret (.prim .list [.call 5 1 [.var 0]])]
def N__law_vat : List PySem.Str := ["script", "k", "cell"]
def ir__law_vat : List IS := [.asg (.name 2) (.bin .Add (.bin .Mult (.cst (.int 7919)) (.var 1)) (.cst (.int 43))), .ifs (.cmp .Lt (.var 1) (.prim .len [.var 0])) [.asg (.name 2) (.prim .abs [.prim .int [.ix (.var 0) (.var 1)]])] [], .retF (.lst [.ite (.cmp .GtE (.var 2) (.bin .Pow (.cst (.int 10)) (.cst (.int 18)))) (.var 2) (.cst (.int 0)), .bin .Add (.bin .Mod (.prim .int [.bin .Add (.bin .Add (.bin .Mult (.var 2) (.cst (.int 131071))) (.bin .Mult (.cst (.int 8191)) (.var 1))) (.cst (.int 5))]) (.cst (.int 2147483629))) (.cst (.int 1))])]
def N__law_under : List PySem.Str := ["vat", "many", "found", "wide"]
def ir__law_under : List IS := [.ifs (.cmp .Gt (.ix (.peek 0) (.cst (.int 0))) (.cst (.int 0))) [.asg (.name 2) (.bin .Mod (.prim .int [.ix (.peek 0) (.cst (.int 0))]) (.var 1)), .sub 0 (.cst (.int 0)) (.bin .FloorDiv (.ix (.peek 0) (.cst (.int 0))) (.var 1)), .ret (.var 2)] [], .sub 0 (.cst (.int 1)) (.bin .Mod (.prim .int [.bin .Add (.bin .Mult (.ix (.peek 0) (.cst (.int 1))) (.cst (.int 39373))) (.cst (.int 101))]) (.cst (.int 2147483629))), .asg (.name 3) (.bin .Mod (.prim .int [.bin .Mult (.ix (.peek 0) (.cst (.int 1))) (.bin .Add (.bin .FloorDiv (.ix (.peek 0) (.cst (.int 1))) (.cst (.int 5))) (.cst (.int 9)))]) (.cst (.int 2147483587))), .ret (.bin .Mod (.prim .int [.bin .FloorDiv (.var 3) (.cst (.int 32))]) (.var 1))]
def N__law_some : List PySem.Str := ["vat", "things"]
def ir__law_some : List IS := [.ret (.ix (.var 1) (.call 13 2 [.peek 0, .prim .len [.var 1]]))]
def N__law_is_whole : List PySem.Str := ["value", "low", "high"]
def ir__law_is_whole : List IS := [.ret (.and (.isinst "int" (.var 0)) (.and (.not (.isinst "bool" (.var 0))) (.chain .LtE .LtE (.var 1) (.var 0) (.var 2))))]
def N__law_truly : List PySem.Str := ["found", "due"]
def ir__law_truly : List IS := [.ret (.and (.isinst "bool" (.var 0)) (.cmp .Eq (.var 0) (.var 1)))]
def N__law_slip : List PySem.Str := ["vat", "low"]
def ir__law_slip : List IS := [.asg (.name 1) (.bin .Sub (.call 13 2 [.peek 0, .cst (.int 7)]) (.cst (.int 4))), .ret (.tup [.var 1, .bin .Add (.var 1) (.call 13 2 [.peek 0, .cst (.int 4)])])]
def N__law_hand : List PySem.Str := ["vat"]
def ir__law_hand : List IS := [.ret (.call 14 2 [.peek 0, .lst [.tup [], .tup [], .tup [.cst (.str z_down), .bin .Add (.cst (.int 2)) (.call 13 2 [.peek 0, .cst (.int 4)])], .tup [.cst (.str z_near), .bin .Add (.cst (.int 2)) (.call 13 2 [.peek 0, .cst (.int 4)])]]])]
def N__law_counter : List PySem.Str := ["vat", "hand", "parts", "kind", "low"]
def ir__law_counter : List IS := [.par [3, 4] [.v (.call 14 2 [.peek 0, .lst [.cst (.str z_stops), .cst (.str z_stops), .cst (.str z_turns)]]), .v (.neg (.call 13 2 [.peek 0, .cst (.int 5)]))], .ret (.tup [.var 3, .var 4, .bin .Add (.cst (.int 1)) (.call 13 2 [.peek 0, .cst (.int 8)]), .var 1, .var 2])]
def N__law_inner : List PySem.Str := ["vat", "parts"]
def ir__law_inner : List IS := [.asg (.name 1) (.tup [.call 17 1 [.peek 0]]), .ifs (.cmp .Eq (.call 13 2 [.peek 0, .cst (.int 3)]) (.cst (.int 0))) [.asg (.name 1) (.bin .Add (.var 1) (.tup [.call 19 3 [.peek 0, .call 18 1 [.peek 0], .tup [.call 17 1 [.peek 0]]]]))] [.ifs (.cmp .Eq (.call 13 2 [.peek 0, .cst (.int 2)]) (.cst (.int 0))) [.asg (.name 1) (.bin .Add (.var 1) (.tup [.call 17 1 [.peek 0]]))] []], .ret (.call 19 3 [.peek 0, .call 18 1 [.peek 0], .var 1])]
def N__law_board : List PySem.Str := ["vat", "most", "parts", "inner", "turn"]
def ir__law_board : List IS := [.par [2, 3] [.v (.tup []), .v (.cst (.int 0))], .for_ (.name 4) (.rng1 (.bin .Add (.cst (.int 1)) (.call 13 2 [.peek 0, .var 1]))) [.ifs (.and (.cmp .Lt (.var 3) (.cst (.int 2))) (.cmp .Eq (.call 13 2 [.peek 0, .cst (.int 3)]) (.cst (.int 0)))) [.par [2, 3] [.v (.bin .Add (.var 2) (.tup [.call 20 1 [.peek 0]])), .v (.bin .Add (.var 3) (.cst (.int 1)))]] [.asg (.name 2) (.bin .Add (.var 2) (.tup [.call 17 1 [.peek 0]]))]], .ret (.call 19 3 [.peek 0, .tup [], .var 2])]
def N__law_slips : List PySem.Str := ["part", "found", "one"]
def ir__law_slips : List IS := [.ifs (.cmp .Eq (.prim .len [.var 0]) (.cst (.int 2))) [.ret (.lst [.var 0])] [], .asg (.name 1) (.lst []), .for_ (.name 2) (.seq (.ix (.var 0) (.cst (.int 4)))) [.asg (.name 1) (.bin .Add (.var 1) (.call 22 1 [.var 2]))], .ret (.var 1)]
def N__law_counters : List PySem.Str := ["part", "found", "one"]
def ir__law_counters : List IS := [.ifs (.cmp .Eq (.prim .len [.var 0]) (.cst (.int 2))) [.ret (.lst [])] [], .asg (.name 1) (.lst [.var 0]), .for_ (.name 2) (.seq (.ix (.var 0) (.cst (.int 4)))) [.asg (.name 1) (.bin .Add (.var 1) (.call 23 1 [.var 2]))], .ret (.var 1)]
def N__law_fact : List PySem.Str := ["vat", "board", "way", "at", "first", "low", "high"]
def ir__law_fact : List IS := [.asg (.name 2) (.call 13 2 [.peek 0, .cst (.int 3)]), .ifs (.cmp .Eq (.var 2) (.cst (.int 0))) [.asg (.name 3) (.call 13 2 [.peek 0, .prim .len [.call 22 1 [.var 1]]]), .asg (.name 4) (.bin .Sub (.bin .Add (.ix (.ix (.call 22 1 [.var 1]) (.var 3)) (.cst (.int 0))) (.call 13 2 [.peek 0, .cst (.int 4)])) (.cst (.int 1))), .ret (.tup [.cst (.str z_slip), .var 3, .var 4, .bin .Add (.var 4) (.call 13 2 [.peek 0, .cst (.int 4)])])] [], .asg (.name 3) (.call 13 2 [.peek 0, .prim .len [.call 23 1 [.var 1]]]), .ifs (.cmp .Eq (.var 2) (.cst (.int 1))) [.ret (.tup [.cst (.str z_caught), .var 3, .cmp .Eq (.call 13 2 [.peek 0, .cst (.int 2)]) (.cst (.int 0))])] [], .asg (.tup [.name 5, .name 6]) (.sl (.ix (.call 23 1 [.var 1]) (.var 3)) (.cst (.int 1)) (.cst (.int 3))), .asg (.name 4) (.bin .Add (.var 5) (.call 13 2 [.peek 0, .bin .Add (.bin .Sub (.var 6) (.var 5)) (.cst (.int 1))])), .ret (.tup [.cst (.str z_shows), .var 3, .var 4, .bin .Add (.var 4) (.call 13 2 [.peek 0, .cst (.int 4)])])]
def N__law_facts : List PySem.Str := ["vat", "board", "most", "turn"]
def ir__law_facts : List IS := [.ret (.prim .tuple [.comp (.call 24 2 [.peek 0, .var 1]) (.name 3) (.rng1 (.call 13 2 [.peek 0, .bin .Add (.var 2) (.cst (.int 1))])) (.hole) [3]])]
def N__law_is_slip : List PySem.Str := ["value"]
def ir__law_is_slip : List IS := [.ifs (.or (.not (.isinst "tuple" (.var 0))) (.or (.cmp .NotEq (.prim .len [.var 0]) (.cst (.int 2))) (.not (.call 15 3 [.ix (.var 0) (.cst (.int 0)), .neg (.cst (.int 20)), .cst (.int 20)])))) [.ret (.cst (.bool false))] [], .ret (.and (.call 15 3 [.ix (.var 0) (.cst (.int 1)), .neg (.cst (.int 20)), .cst (.int 20)]) (.cmp .LtE (.ix (.var 0) (.cst (.int 0))) (.ix (.var 0) (.cst (.int 1)))))]
def N__law_is_hand : List PySem.Str := ["value"]
def ir__law_is_hand : List IS := [.ifs (.or (.not (.isinst "tuple" (.var 0))) (.cmp .NotIn (.prim .len [.var 0]) (.lst [.cst (.int 0), .cst (.int 2)]))) [.ret (.cst (.bool false))] [], .ifs (.cmp .Eq (.prim .len [.var 0]) (.cst (.int 0))) [.ret (.cst (.bool true))] [], .ret (.and (.isinst "str" (.ix (.var 0) (.cst (.int 0)))) (.and (.cmp .In (.ix (.var 0) (.cst (.int 0))) (.lst [.cst (.str z_down), .cst (.str z_near)])) (.call 15 3 [.ix (.var 0) (.cst (.int 1)), .cst (.int 2), .cst (.int 10)])))]
def N__law_is_counter : List PySem.Str := ["value", "deep", "bad", "part"]
def ir__law_is_counter : List IS := [.ifs (.or (.cmp .Lt (.var 1) (.cst (.int 0))) (.or (.not (.isinst "tuple" (.var 0))) (.or (.cmp .NotEq (.prim .len [.var 0]) (.cst (.int 5))) (.not (.isinst "str" (.ix (.var 0) (.cst (.int 0)))))))) [.ret (.cst (.bool false))] [], .ifs (.or (.cmp .NotIn (.ix (.var 0) (.cst (.int 0))) (.lst [.cst (.str z_stops), .cst (.str z_turns)])) (.or (.not (.call 15 3 [.ix (.var 0) (.cst (.int 1)), .neg (.cst (.int 99)), .cst (.int 0)])) (.not (.call 15 3 [.ix (.var 0) (.cst (.int 2)), .cst (.int 0), .cst (.int 99)])))) [.ret (.cst (.bool false))] [], .ifs (.or (.cmp .Eq (.ix (.var 0) (.cst (.int 1))) (.ix (.var 0) (.cst (.int 2)))) (.or (.not (.call 27 1 [.ix (.var 0) (.cst (.int 3))])) (.not (.isinst "tuple" (.ix (.var 0) (.cst (.int 4))))))) [.ret (.cst (.bool false))] [], .asg (.name 2) (.comp (.var 3) (.name 3) (.seq (.ix (.var 0) (.cst (.int 4)))) (.and (.not (.call 26 1 [.var 3])) (.not (.call 28 2 [.var 3, .bin .Sub (.var 1) (.cst (.int 1))]))) [3]), .ret (.and (.chain .LtE .LtE (.cst (.int 1)) (.prim .len [.ix (.var 0) (.cst (.int 4))]) (.cst (.int 4))) (.cmp .Eq (.var 2) (.lst [])))]
def N__law_is_board : List PySem.Str := ["value"]
def ir__law_is_board : List IS := [.ifs (.or (.not (.call 28 2 [.var 0, .cst (.int 2)])) (.cmp .NotEq (.ix (.var 0) (.cst (.int 3))) (.tup []))) [.ret (.cst (.bool false))] [], .ret (.and (.chain .LtE .LtE (.cst (.int 1)) (.prim .len [.call 22 1 [.var 0]]) (.cst (.int 8))) (.cmp .LtE (.prim .len [.call 23 1 [.var 0]]) (.cst (.int 6))))]
def N__law_is_fact : List PySem.Str := ["board", "value", "many"]
def ir__law_is_fact : List IS := [.ifs (.or (.not (.isinst "tuple" (.var 1))) (.or (.cmp .NotIn (.prim .len [.var 1]) (.lst [.cst (.int 3), .cst (.int 4)])) (.not (.isinst "str" (.ix (.var 1) (.cst (.int 0))))))) [.ret (.cst (.bool false))] [], .asg (.name 2) (.ite (.cmp .Eq (.ix (.var 1) (.cst (.int 0))) (.cst (.str z_slip))) (.prim .len [.call 22 1 [.var 0]]) (.prim .len [.call 23 1 [.var 0]])), .ifs (.not (.call 15 3 [.ix (.var 1) (.cst (.int 1)), .cst (.int 0), .bin .Sub (.var 2) (.cst (.int 1))])) [.ret (.cst (.bool false))] [], .ifs (.cmp .Eq (.ix (.var 1) (.cst (.int 0))) (.cst (.str z_caught))) [.ret (.and (.cmp .Eq (.prim .len [.var 1]) (.cst (.int 3))) (.isinst "bool" (.ix (.var 1) (.cst (.int 2)))))] [], .ifs (.or (.cmp .NotIn (.ix (.var 1) (.cst (.int 0))) (.lst [.cst (.str z_shows), .cst (.str z_slip)])) (.or (.cmp .NotEq (.prim .len [.var 1]) (.cst (.int 4))) (.not (.call 15 3 [.ix (.var 1) (.cst (.int 2)), .neg (.cst (.int 999)), .cst (.int 999)])))) [.ret (.cst (.bool false))] [], .ret (.and (.call 15 3 [.ix (.var 1) (.cst (.int 3)), .neg (.cst (.int 999)), .cst (.int 999)]) (.cmp .LtE (.ix (.var 1) (.cst (.int 2))) (.ix (.var 1) (.cst (.int 3)))))]
def N__law_spoilt : List PySem.Str := ["vat", "value", "at", "way"]
def ir__law_spoilt : List IS := [.ifs (.and (.isinst "tuple" (.var 1)) (.and (.cmp .NotEq (.var 1) (.tup [])) (.cmp .Gt (.call 13 2 [.peek 0, .cst (.int 5)]) (.cst (.int 0))))) [.asg (.name 2) (.call 13 2 [.peek 0, .prim .len [.var 1]]), .ret (.bin .Add (.bin .Add (.sl (.var 1) (.hole) (.var 2)) (.tup [.call 31 2 [.peek 0, .ix (.var 1) (.var 2)]])) (.sl (.var 1) (.bin .Add (.var 2) (.cst (.int 1))) (.hole)))] [], .asg (.name 3) (.call 13 2 [.peek 0, .cst (.int 6)]), .ifs (.isinst "tuple" (.var 1)) [.ret (.ix (.lst [.prim .list [.var 1], .sl (.var 1) (.cst (.int 1)) (.hole), .bin .Add (.var 1) (.sl (.var 1) (.neg (.cst (.int 1))) (.hole)), .rev (.var 1), .cst .none, .tup [.cst (.int 1), .cst (.int 2)]]) (.var 3))] [], .ifs (.isinst "str" (.var 1)) [.ret (.ix (.lst [.cst (.str z_stops), .cst (.str z_turns), .cst (.str z_near), .cst (.str z_slip), .cst (.str z_), .cst (.str z_Stops)]) (.var 3))] [], .ifs (.isinst "bool" (.var 1)) [.ret (.ix (.lst [.not (.var 1), .prim .int [.var 1], .cst .none, .cst (.str z_caught), .cst (.int 2), .cst (.bool true)]) (.var 3))] [], .ifs (.isinst "int" (.var 1)) [.ret (.ix (.lst [.bin .Add (.var 1) (.cst (.int 1)), .bin .Sub (.var 1) (.cst (.int 1)), .neg (.var 1), .cst (.bool true), .cst .none, .bin .Add (.var 1) (.cst (.int 95))]) (.var 3))] [], .ret (.ix (.lst [.cst (.int 0), .tup [], .cst (.str z_stops), .tup [.cst (.int 0), .cst (.int 1)], .neg (.cst (.int 1)), .cst (.bool true)]) (.var 3))]
def N__law_seen : List PySem.Str := ["board", "value", "facts", "word", "bad", "one"]
def ir__law_seen : List IS := [.asg (.name 3) (.ite (.call 29 1 [.var 1]) (.cst (.str z_)) (.cst (.str z_board_value))), .ifs (.or (.not (.call 16 2 [.call 6 1 [.var 1], .cmp .Eq (.var 3) (.cst (.str z_))])) (.cmp .NotEq (.att 0 (.call 10 1 [.var 1])) (.var 3))) [.ret (.cst (.bool false))] [], .ifs (.cmp .NotEq (.att 0 (.call 11 1 [.var 1])) (.var 3)) [.ret (.cst (.bool false))] [], .ifs (.and (.cmp .NotEq (.var 3) (.cst (.str z_))) (.cmp .NotEq (.att 0 (.call 9 2 [.var 1, .tup []])) (.var 3))) [.ret (.cst (.bool false))] [], .ifs (.or (.not (.isinst "tuple" (.var 2))) (.cmp .Gt (.prim .len [.var 2]) (.cst (.int 6)))) [.ret (.cmp .Is (.call 9 2 [.var 0, .var 2]) (.cst (.bool false)))] [], .asg (.name 4) (.comp (.var 5) (.name 5) (.seq (.var 2)) (.not (.call 30 2 [.var 0, .var 5])) [5]), .ret (.call 16 2 [.call 9 2 [.var 0, .var 2], .cmp .Eq (.var 4) (.lst [])])]
def N__law_written : List PySem.Str := ["deep", "wide", "parts", "odds", "inner", "value", "good", "bad", "fact", "row"]
def ir__law_written : List IS := [.asg (.name 0) (.tup [.cst (.str z_stops), .cst (.int 0), .cst (.int 1), .tup [], .tup [.tup [.cst (.str z_stops), .neg (.cst (.int 1)), .cst (.int 1), .tup [.cst (.str z_near), .cst (.int 2)], .tup [.tup [.cst (.str z_turns), .cst (.int 0), .cst (.int 9), .tup [], .tup [.tup [.cst (.int 0), .cst (.int 0)]]]]]]]), .asg (.name 1) (.tup [.cst (.str z_turns), .neg (.cst (.int 99)), .cst (.int 99), .tup [], .bin .Mult (.tup [.tup [.neg (.cst (.int 20)), .cst (.int 20)]]) (.cst (.int 4))]), .asg (.name 2) (.tup [.tup [.cst (.int 0), .cst (.int 1)]]), .asg (.name 3) (.lst [.tup [.cst (.str z_stops), .cst (.int 0), .cst (.int 0), .tup [], .var 2], .tup [.cst (.str z_stops), .neg (.cst (.int 100)), .cst (.int 9), .tup [], .var 2]]), .asg (.name 3) (.bin .Add (.var 3) (.lst [.tup [.cst (.str z_stops), .cst (.int 0), .cst (.int 100), .tup [], .var 2], .tup [.cst (.str z_stops), .cst (.int 1), .cst (.int 9), .tup [], .var 2]])), .asg (.name 3) (.bin .Add (.var 3) (.lst [.tup [.cst (.str z_stops), .cst (.int 0), .cst (.int 9), .tup [.cst (.str z_down), .cst (.int 2)], .var 2], .tup [.cst (.str z_stops), .cst (.int 0), .cst (.int 9), .tup [], .tup []]])), .asg (.name 3) (.bin .Add (.var 3) (.lst [.tup [.cst (.str z_stops), .cst (.int 0), .cst (.int 9), .tup [], .tup [.var 0]], .bin .Add (.sl (.var 1) (.hole) (.cst (.int 4))) (.tup [.bin .Add (.ix (.var 1) (.cst (.int 4))) (.var 2)])])), .asg (.name 3) (.bin .Add (.var 3) (.lst [.tup [.cst (.str z_stops), .cst (.int 0), .cst (.int 9), .tup [], .tup [.tup [.cst (.int 0), .cst (.int 21)]]], .tup [.cst (.str z_stops), .cst (.int 0), .cst (.int 9), .tup [], .tup [.tup [.cst (.int 1), .cst (.int 0)]]]])), .asg (.name 3) (.bin .Add (.var 3) (.lst [.tup [.cst (.str z_stops), .cst (.int 0), .cst (.int 9), .lst [], .var 2], .cst .none, .tup [.cst (.int 0), .cst (.int 1)], .bin .Add (.sl (.var 1) (.hole) (.cst (.int 4))) (.tup [.bin .Mult (.tup [.var 1]) (.cst (.int 3))])])), .asg (.name 4) (.tup [.cst (.str z_stops), .cst (.int 0), .cst (.int 9), .tup [.cst (.str z_near), .cst (.int 11)], .var 2]), .asg (.name 3) (.bin .Add (.var 3) (.lst [.tup [.cst (.str z_stops), .cst (.int 0), .cst (.int 9), .tup [], .tup [.var 4]]])), .ifs (.or (.cmp .NotEq (.comp (.var 5) (.name 5) (.seq (.var 3)) (.cmp .IsNot (.call 6 1 [.var 5]) (.cst (.bool false))) [5]) (.lst [])) (.not (.call 6 1 [.var 1]))) [.ret (.cst (.bool false))] [], .ifs (.or (.not (.call 6 1 [.var 0])) (.or (.not (.call 6 1 [.bin .Add (.sl (.var 1) (.hole) (.cst (.int 4))) (.tup [.bin .Mult (.tup [.var 1]) (.cst (.int 2))])])) (.cmp .NotEq (.prim .len [.call 11 1 [.var 0]]) (.cst (.int 3))))) [.ret (.cst (.bool false))] [], .asg (.name 6) (.tup [.tup [.cst (.str z_slip), .cst (.int 0), .neg (.cst (.int 999)), .cst (.int 999)], .tup [.cst (.str z_shows), .cst (.int 2), .cst (.int 3), .cst (.int 3)], .tup [.cst (.str z_caught), .cst (.int 1), .cst (.bool false)]]), .asg (.name 7) (.lst [.tup [.cst (.str z_slip), .cst (.int 1), .cst (.int 0), .cst (.int 0)], .tup [.cst (.str z_shows), .cst (.int 3), .cst (.int 0), .cst (.int 0)], .tup [.cst (.str z_caught), .cst (.int 0), .cst (.int 1)], .cst .none]), .asg (.name 7) (.bin .Add (.var 7) (.lst [.tup [.cst (.str z_slip), .cst (.int 0), .cst (.int 1), .cst (.int 0)], .tup [.cst (.str z_shows), .cst (.int 0), .cst (.int 0)], .tup [.cst (.str z_caught), .cst (.int 0), .cst (.bool true), .cst (.int 1)]])), .asg (.name 7) (.bin .Add (.var 7) (.lst [.tup [.cst (.str z_slip), .cst (.int 0), .cst (.int 0), .cst (.int 1000)], .tup [.cst (.str z_seen), .cst (.int 0), .cst (.int 0), .cst (.int 0)]])), .asg (.name 3) (.bin .Add (.comp (.tup [.var 8]) (.name 8) (.seq (.var 7)) (.hole) [8]) (.lst [.bin .Mult (.var 6) (.cst (.int 3)), .prim .list [.var 6]])), .ifs (.cmp .NotEq (.comp (.var 9) (.name 9) (.seq (.var 3)) (.cmp .IsNot (.call 9 2 [.var 0, .var 9]) (.cst (.bool false))) [9]) (.lst [])) [.ret (.cst (.bool false))] [], .ret (.cmp .Is (.call 9 2 [.var 0, .bin .Mult (.var 6) (.cst (.int 2))]) (.cst (.bool true)))]
def N_law : List PySem.Str := ["script", "k", "vat", "board", "value", "facts", "turn"]
def ir_law : List IS := [.for_ (.name 1) (.rng1 (.prim .max [.cst (.int 4), .prim .min [.cst (.int 9), .prim .len [.var 0]]])) [.setF 2 (.call 12 2 [.var 0, .var 1]), .asg (.name 3) (.call 21 2 [.peek 2, .cst (.int 3)]), .ifs (.or (.cmp .NotEq (.call 10 1 [.var 3]) (.call 22 1 [.var 3])) (.or (.cmp .NotEq (.call 11 1 [.var 3]) (.call 23 1 [.var 3])) (.cmp .IsNot (.call 6 1 [.var 3]) (.cst (.bool true))))) [.ret (.cst (.bool false))] [], .par [4, 5] [.v (.var 3), .v (.call 25 3 [.peek 2, .var 3, .cst (.int 4)])], .ifs (.cmp .IsNot (.call 9 2 [.var 3, .var 5]) (.cst (.bool true))) [.ret (.cst (.bool false))] [], .for_ (.name 6) (.rng1 (.cst (.int 12))) [.par [4, 5] [.v (.call 31 2 [.peek 2, .ite (.cmp .Eq (.bin .Mod (.var 6) (.cst (.int 3))) (.cst (.int 0))) (.var 3) (.var 4)]), .v (.call 31 2 [.peek 2, .var 5])], .ifs (.not (.call 34 3 [.var 3, .var 4, .var 5])) [.ret (.cst (.bool false))] []]], .ret (.call0 35)]
end K
namespace K
open PySem PySem.Spec L2 Fw
def z_numbers_value : PySem.Str := "numbers value"
@[simp] theorem z_numbers_value_ok : PyData.canLay0 (.str z_numbers_value) = true := by decide +kernel
def z_facts_value : PySem.Str := "facts value"
@[simp] theorem z_facts_value_ok : PyData.canLay0 (.str z_facts_value) = true := by decide +kernel
@[simp] theorem z_numbers_value_nb_z_facts_value : (z_numbers_value == z_facts_value) = false := by decide +kernel
@[simp] theorem z_facts_value_nb_z_numbers_value : (z_facts_value == z_numbers_value) = false := by decide +kernel
@[simp] theorem z_numbers_value_ne_z_facts_value : ¬ (z_numbers_value = z_facts_value) := by decide +kernel
@[simp] theorem z_facts_value_ne_z_numbers_value : ¬ (z_facts_value = z_numbers_value) := by decide +kernel
@[simp] theorem z_numbers_value_nb_z_down : (z_numbers_value == z_down) = false := by decide +kernel
@[simp] theorem z_down_nb_z_numbers_value : (z_down == z_numbers_value) = false := by decide +kernel
@[simp] theorem z_numbers_value_ne_z_down : ¬ (z_numbers_value = z_down) := by decide +kernel
@[simp] theorem z_down_ne_z_numbers_value : ¬ (z_down = z_numbers_value) := by decide +kernel
@[simp] theorem z_numbers_value_nb_z_near : (z_numbers_value == z_near) = false := by decide +kernel
@[simp] theorem z_near_nb_z_numbers_value : (z_near == z_numbers_value) = false := by decide +kernel
@[simp] theorem z_numbers_value_ne_z_near : ¬ (z_numbers_value = z_near) := by decide +kernel
@[simp] theorem z_near_ne_z_numbers_value : ¬ (z_near = z_numbers_value) := by decide +kernel
@[simp] theorem z_numbers_value_nb_z_stops : (z_numbers_value == z_stops) = false := by decide +kernel
@[simp] theorem z_stops_nb_z_numbers_value : (z_stops == z_numbers_value) = false := by decide +kernel
@[simp] theorem z_numbers_value_ne_z_stops : ¬ (z_numbers_value = z_stops) := by decide +kernel
@[simp] theorem z_stops_ne_z_numbers_value : ¬ (z_stops = z_numbers_value) := by decide +kernel
@[simp] theorem z_numbers_value_nb_z_turns : (z_numbers_value == z_turns) = false := by decide +kernel
@[simp] theorem z_turns_nb_z_numbers_value : (z_turns == z_numbers_value) = false := by decide +kernel
@[simp] theorem z_numbers_value_ne_z_turns : ¬ (z_numbers_value = z_turns) := by decide +kernel
@[simp] theorem z_turns_ne_z_numbers_value : ¬ (z_turns = z_numbers_value) := by decide +kernel
@[simp] theorem z_numbers_value_nb_z_slip : (z_numbers_value == z_slip) = false := by decide +kernel
@[simp] theorem z_slip_nb_z_numbers_value : (z_slip == z_numbers_value) = false := by decide +kernel
@[simp] theorem z_numbers_value_ne_z_slip : ¬ (z_numbers_value = z_slip) := by decide +kernel
@[simp] theorem z_slip_ne_z_numbers_value : ¬ (z_slip = z_numbers_value) := by decide +kernel
@[simp] theorem z_numbers_value_nb_z_caught : (z_numbers_value == z_caught) = false := by decide +kernel
@[simp] theorem z_caught_nb_z_numbers_value : (z_caught == z_numbers_value) = false := by decide +kernel
@[simp] theorem z_numbers_value_ne_z_caught : ¬ (z_numbers_value = z_caught) := by decide +kernel
@[simp] theorem z_caught_ne_z_numbers_value : ¬ (z_caught = z_numbers_value) := by decide +kernel
@[simp] theorem z_numbers_value_nb_z_shows : (z_numbers_value == z_shows) = false := by decide +kernel
@[simp] theorem z_shows_nb_z_numbers_value : (z_shows == z_numbers_value) = false := by decide +kernel
@[simp] theorem z_numbers_value_ne_z_shows : ¬ (z_numbers_value = z_shows) := by decide +kernel
@[simp] theorem z_shows_ne_z_numbers_value : ¬ (z_shows = z_numbers_value) := by decide +kernel
@[simp] theorem z_numbers_value_nb_z_ : (z_numbers_value == z_) = false := by decide +kernel
@[simp] theorem z__nb_z_numbers_value : (z_ == z_numbers_value) = false := by decide +kernel
@[simp] theorem z_numbers_value_ne_z_ : ¬ (z_numbers_value = z_) := by decide +kernel
@[simp] theorem z__ne_z_numbers_value : ¬ (z_ = z_numbers_value) := by decide +kernel
@[simp] theorem z_numbers_value_nb_z_Stops : (z_numbers_value == z_Stops) = false := by decide +kernel
@[simp] theorem z_Stops_nb_z_numbers_value : (z_Stops == z_numbers_value) = false := by decide +kernel
@[simp] theorem z_numbers_value_ne_z_Stops : ¬ (z_numbers_value = z_Stops) := by decide +kernel
@[simp] theorem z_Stops_ne_z_numbers_value : ¬ (z_Stops = z_numbers_value) := by decide +kernel
@[simp] theorem z_numbers_value_nb_z_board_value : (z_numbers_value == z_board_value) = false := by decide +kernel
@[simp] theorem z_board_value_nb_z_numbers_value : (z_board_value == z_numbers_value) = false := by decide +kernel
@[simp] theorem z_numbers_value_ne_z_board_value : ¬ (z_numbers_value = z_board_value) := by decide +kernel
@[simp] theorem z_board_value_ne_z_numbers_value : ¬ (z_board_value = z_numbers_value) := by decide +kernel
@[simp] theorem z_numbers_value_nb_z_seen : (z_numbers_value == z_seen) = false := by decide +kernel
@[simp] theorem z_seen_nb_z_numbers_value : (z_seen == z_numbers_value) = false := by decide +kernel
@[simp] theorem z_numbers_value_ne_z_seen : ¬ (z_numbers_value = z_seen) := by decide +kernel
@[simp] theorem z_seen_ne_z_numbers_value : ¬ (z_seen = z_numbers_value) := by decide +kernel
@[simp] theorem z_facts_value_nb_z_down : (z_facts_value == z_down) = false := by decide +kernel
@[simp] theorem z_down_nb_z_facts_value : (z_down == z_facts_value) = false := by decide +kernel
@[simp] theorem z_facts_value_ne_z_down : ¬ (z_facts_value = z_down) := by decide +kernel
@[simp] theorem z_down_ne_z_facts_value : ¬ (z_down = z_facts_value) := by decide +kernel
@[simp] theorem z_facts_value_nb_z_near : (z_facts_value == z_near) = false := by decide +kernel
@[simp] theorem z_near_nb_z_facts_value : (z_near == z_facts_value) = false := by decide +kernel
@[simp] theorem z_facts_value_ne_z_near : ¬ (z_facts_value = z_near) := by decide +kernel
@[simp] theorem z_near_ne_z_facts_value : ¬ (z_near = z_facts_value) := by decide +kernel
@[simp] theorem z_facts_value_nb_z_stops : (z_facts_value == z_stops) = false := by decide +kernel
@[simp] theorem z_stops_nb_z_facts_value : (z_stops == z_facts_value) = false := by decide +kernel
@[simp] theorem z_facts_value_ne_z_stops : ¬ (z_facts_value = z_stops) := by decide +kernel
@[simp] theorem z_stops_ne_z_facts_value : ¬ (z_stops = z_facts_value) := by decide +kernel
@[simp] theorem z_facts_value_nb_z_turns : (z_facts_value == z_turns) = false := by decide +kernel
@[simp] theorem z_turns_nb_z_facts_value : (z_turns == z_facts_value) = false := by decide +kernel
@[simp] theorem z_facts_value_ne_z_turns : ¬ (z_facts_value = z_turns) := by decide +kernel
@[simp] theorem z_turns_ne_z_facts_value : ¬ (z_turns = z_facts_value) := by decide +kernel
@[simp] theorem z_facts_value_nb_z_slip : (z_facts_value == z_slip) = false := by decide +kernel
@[simp] theorem z_slip_nb_z_facts_value : (z_slip == z_facts_value) = false := by decide +kernel
@[simp] theorem z_facts_value_ne_z_slip : ¬ (z_facts_value = z_slip) := by decide +kernel
@[simp] theorem z_slip_ne_z_facts_value : ¬ (z_slip = z_facts_value) := by decide +kernel
@[simp] theorem z_facts_value_nb_z_caught : (z_facts_value == z_caught) = false := by decide +kernel
@[simp] theorem z_caught_nb_z_facts_value : (z_caught == z_facts_value) = false := by decide +kernel
@[simp] theorem z_facts_value_ne_z_caught : ¬ (z_facts_value = z_caught) := by decide +kernel
@[simp] theorem z_caught_ne_z_facts_value : ¬ (z_caught = z_facts_value) := by decide +kernel
@[simp] theorem z_facts_value_nb_z_shows : (z_facts_value == z_shows) = false := by decide +kernel
@[simp] theorem z_shows_nb_z_facts_value : (z_shows == z_facts_value) = false := by decide +kernel
@[simp] theorem z_facts_value_ne_z_shows : ¬ (z_facts_value = z_shows) := by decide +kernel
@[simp] theorem z_shows_ne_z_facts_value : ¬ (z_shows = z_facts_value) := by decide +kernel
@[simp] theorem z_facts_value_nb_z_ : (z_facts_value == z_) = false := by decide +kernel
@[simp] theorem z__nb_z_facts_value : (z_ == z_facts_value) = false := by decide +kernel
@[simp] theorem z_facts_value_ne_z_ : ¬ (z_facts_value = z_) := by decide +kernel
@[simp] theorem z__ne_z_facts_value : ¬ (z_ = z_facts_value) := by decide +kernel
@[simp] theorem z_facts_value_nb_z_Stops : (z_facts_value == z_Stops) = false := by decide +kernel
@[simp] theorem z_Stops_nb_z_facts_value : (z_Stops == z_facts_value) = false := by decide +kernel
@[simp] theorem z_facts_value_ne_z_Stops : ¬ (z_facts_value = z_Stops) := by decide +kernel
@[simp] theorem z_Stops_ne_z_facts_value : ¬ (z_Stops = z_facts_value) := by decide +kernel
@[simp] theorem z_facts_value_nb_z_board_value : (z_facts_value == z_board_value) = false := by decide +kernel
@[simp] theorem z_board_value_nb_z_facts_value : (z_board_value == z_facts_value) = false := by decide +kernel
@[simp] theorem z_facts_value_ne_z_board_value : ¬ (z_facts_value = z_board_value) := by decide +kernel
@[simp] theorem z_board_value_ne_z_facts_value : ¬ (z_board_value = z_facts_value) := by decide +kernel
@[simp] theorem z_facts_value_nb_z_seen : (z_facts_value == z_seen) = false := by decide +kernel
@[simp] theorem z_seen_nb_z_facts_value : (z_seen == z_facts_value) = false := by decide +kernel
@[simp] theorem z_facts_value_ne_z_seen : ¬ (z_facts_value = z_seen) := by decide +kernel
@[simp] theorem z_seen_ne_z_facts_value : ¬ (z_seen = z_facts_value) := by decide +kernel
def N_need_facts : List PySem.Str := ["board", "facts"]
def ir_need_facts : List IS := [.ifs (.not (.call 9 2 [.var 0, .var 1])) [.raise 3] []]
def N_settled : List PySem.Str := ["kind", "low", "high", "number"]
def ir_settled : List IS := [.ifs (.chain .LtE .LtE (.var 1) (.var 3) (.var 2)) [.ret (.var 3)] [], .ifs (.cmp .Eq (.var 0) (.cst (.str z_turns))) [.ret (.bin .Add (.var 1) (.bin .Mod (.bin .Sub (.var 3) (.var 1)) (.bin .Add (.bin .Sub (.var 2) (.var 1)) (.cst (.int 1)))))] [], .ret (.ite (.cmp .Lt (.var 3) (.var 1)) (.var 1) (.var 2))]
def N_handed : List PySem.Str := ["hand", "number", "word", "unit"]
def ir_handed : List IS := [.ifs (.cmp .Eq (.var 0) (.tup [])) [.ret (.var 1)] [], .asg (.tup [.name 2, .name 3]) (.var 0), .ret (.bin .Mult (.bin .FloorDiv (.bin .Add (.var 1) (.ite (.cmp .Eq (.var 2) (.cst (.str z_near))) (.bin .FloorDiv (.var 3) (.cst (.int 2))) (.cst (.int 0)))) (.var 3)) (.var 3))]
def N_need_numbers : List PySem.Str := ["board", "numbers", "some", "number", "low", "high"]
def ir_need_numbers : List IS := [.expr (.call 7 1 [.var 0]), .asg (.name 2) (.call 4 1 [.var 0]), .ifs (.or (.not (.isinst "tuple" (.var 1))) (.cmp .NotEq (.prim .len [.var 1]) (.prim .len [.var 2]))) [.raise 2] [], .for_ (.tup [.name 3, .tup [.name 4, .name 5]]) (.zip (.var 1) (.var 2)) [.ifs (.not (.call 0 3 [.var 3, .var 4, .var 5])) [.raise 2] []]]
def N_led : List PySem.Str := ["counter", "numbers", "rows", "at", "now", "is_caught", "part", "more", "there"]
def ir_led : List IS := [.par [3, 4, 5] [.v (.prim .len [.peek 2]), .v (.cst (.int 0)), .v (.cst (.bool false))], .app 2 (.cst .none), .for_ (.name 6) (.seq (.ix (.var 0) (.cst (.int 4)))) [.ifs (.cmp .Eq (.prim .len [.var 6]) (.cst (.int 2))) [.par [7, 1] [.v (.ix (.var 1) (.cst (.int 0))), .v (.sl (.var 1) (.cst (.int 1)) (.hole))]] [.asg (.tup [.name 7, .name 1]) (.call 41 3 [.var 6, .var 1, .peek 2]), .asg (.name 7) (.call 39 2 [.ix (.var 6) (.cst (.int 3)), .var 7])], .asg (.name 8) (.call 38 4 [.ix (.var 0) (.cst (.int 0)), .ix (.var 0) (.cst (.int 1)), .ix (.var 0) (.cst (.int 2)), .bin .Add (.var 4) (.var 7)]), .par [4, 5] [.v (.var 8), .v (.or (.var 5) (.cmp .NotEq (.var 8) (.bin .Add (.var 4) (.var 7))))]], .sub 2 (.var 3) (.tup [.var 4, .var 5]), .ret (.tup [.var 4, .var 1])]
def N_rows_of : List PySem.Str := ["board", "numbers", "rows"]
def ir_rows_of : List IS := [.setF 2 (.lst []), .expr (.call 41 3 [.var 0, .var 1, .peek 2]), .ret (.var 2)]
def N_shown : List PySem.Str := ["board", "numbers", "row"]
def ir_shown : List IS := [.expr (.call 40 2 [.var 0, .var 1]), .ret (.comp (.ix (.var 2) (.cst (.int 0))) (.name 2) (.seq (.call 42 2 [.var 0, .var 1])) (.hole) [2])]
def N_caught : List PySem.Str := ["board", "numbers", "at", "row"]
def ir_caught : List IS := [.expr (.call 40 2 [.var 0, .var 1]), .ret (.comp (.var 2) (.tup [.name 2, .name 3]) (.enum (.call 42 2 [.var 0, .var 1])) (.ix (.var 3) (.cst (.int 1))) [2, 3])]
def N_off : List PySem.Str := ["board", "numbers"]
def ir_off : List IS := [.expr (.call 40 2 [.var 0, .var 1]), .ret (.bin .Sub (.ix (.ix (.call 42 2 [.var 0, .var 1]) (.cst (.int 0))) (.cst (.int 0))) (.prim .sum [.var 1]))]
def N_is_so : List PySem.Str := ["fact", "rows", "numbers", "number"]
def ir_is_so : List IS := [.ifs (.cmp .Eq (.ix (.var 0) (.cst (.int 0))) (.cst (.str z_caught))) [.ret (.cmp .Eq (.ix (.ix (.var 1) (.ix (.var 0) (.cst (.int 1)))) (.cst (.int 1))) (.ix (.var 0) (.cst (.int 2))))] [], .asg (.name 3) (.ite (.cmp .Eq (.ix (.var 0) (.cst (.int 0))) (.cst (.str z_slip))) (.ix (.var 2) (.ix (.var 0) (.cst (.int 1)))) (.ix (.ix (.var 1) (.ix (.var 0) (.cst (.int 1)))) (.cst (.int 0)))), .ret (.chain .LtE .LtE (.ix (.var 0) (.cst (.int 2))) (.var 3) (.ix (.var 0) (.cst (.int 3))))]
def N_keeps : List PySem.Str := ["board", "numbers", "facts", "rows", "fact"]
def ir_keeps : List IS := [.expr (.call 40 2 [.var 0, .var 1]), .expr (.call 37 2 [.var 0, .var 2]), .asg (.name 3) (.call 42 2 [.var 0, .var 1]), .ret (.prim .all [.comp (.call 46 3 [.var 4, .var 3, .var 1]) (.name 4) (.seq (.var 2)) (.hole) [4]])]
def N__law_settled : List PySem.Str := ["counter", "number", "kind", "low", "high", "one"]
def ir__law_settled : List IS := [.asg (.tup [.name 2, .name 3, .name 4]) (.sl (.var 0) (.hole) (.cst (.int 3))), .ifs (.cmp .Eq (.var 2) (.cst (.str z_stops))) [.ret (.prim .max [.var 3, .prim .min [.var 4, .var 1]])] [], .ret (.ix (.comp (.var 5) (.name 5) (.rng2 (.var 3) (.bin .Add (.var 4) (.cst (.int 1)))) (.cmp .Eq (.bin .Mod (.bin .Sub (.var 5) (.var 1)) (.bin .Add (.bin .Sub (.var 4) (.var 3)) (.cst (.int 1)))) (.cst (.int 0))) [5]) (.cst (.int 0)))]
def N__law_handed : List PySem.Str := ["hand", "number", "below"]
def ir__law_handed : List IS := [.ifs (.cmp .Eq (.var 0) (.tup [])) [.ret (.var 1)] [], .asg (.name 2) (.bin .Sub (.var 1) (.bin .Mod (.var 1) (.ix (.var 0) (.cst (.int 1))))), .ret (.ite (.and (.cmp .Eq (.ix (.var 0) (.cst (.int 0))) (.cst (.str z_near))) (.cmp .GtE (.bin .Mult (.cst (.int 2)) (.bin .Sub (.var 1) (.var 2))) (.ix (.var 0) (.cst (.int 1))))) (.bin .Add (.var 2) (.ix (.var 0) (.cst (.int 1)))) (.var 2))]
def N__law_led : List PySem.Str := ["counter", "numbers", "now", "is_caught", "inner", "part", "more", "rest", "some", "there"]
def ir__law_led : List IS := [.par [2, 3, 4] [.v (.cst (.int 0)), .v (.cst (.bool false)), .v (.lst [])], .for_ (.name 5) (.seq (.ix (.var 0) (.cst (.int 4)))) [.par [6, 7] [.v (.ix (.var 1) (.cst (.int 0))), .v (.sl (.var 1) (.cst (.int 1)) (.hole))], .ifs (.cmp .Eq (.prim .len [.var 5]) (.cst (.int 5))) [.asg (.tup [.name 8, .name 7]) (.call 50 2 [.var 5, .var 1]), .par [4, 6] [.v (.bin .Add (.var 4) (.var 8)), .v (.call 49 2 [.ix (.var 5) (.cst (.int 3)), .ix (.ix (.var 8) (.cst (.int 0))) (.cst (.int 0))])]] [], .par [1, 9] [.v (.var 7), .v (.call 48 2 [.var 0, .bin .Add (.var 2) (.var 6)])], .par [2, 3] [.v (.var 9), .v (.or (.var 3) (.cmp .NotEq (.var 9) (.bin .Add (.var 2) (.var 6))))]], .ret (.tup [.bin .Add (.lst [.tup [.var 2, .var 3]]) (.var 4), .var 1])]
def N__law_rows : List PySem.Str := ["board", "numbers"]
def ir__law_rows : List IS := [.ret (.ix (.call 50 2 [.var 0, .bin .Add (.var 1) (.tup [.cst (.int 0)])]) (.cst (.int 0)))]
def N__law_so : List PySem.Str := ["fact", "rows", "numbers", "number"]
def ir__law_so : List IS := [.ifs (.cmp .Eq (.ix (.var 0) (.cst (.int 0))) (.cst (.str z_caught))) [.ret (.cmp .Eq (.ix (.ix (.var 1) (.ix (.var 0) (.cst (.int 1)))) (.cst (.int 1))) (.ix (.var 0) (.cst (.int 2))))] [], .asg (.name 3) (.ite (.cmp .Eq (.ix (.var 0) (.cst (.int 0))) (.cst (.str z_slip))) (.ix (.var 2) (.ix (.var 0) (.cst (.int 1)))) (.ix (.ix (.var 1) (.ix (.var 0) (.cst (.int 1)))) (.cst (.int 0)))), .ret (.and (.cmp .LtE (.ix (.var 0) (.cst (.int 2))) (.var 3)) (.cmp .LtE (.var 3) (.ix (.var 0) (.cst (.int 3)))))]
def N__law_numbers : List PySem.Str := ["vat", "board", "low", "high"]
def ir__law_numbers : List IS := [.ret (.prim .tuple [.comp (.bin .Add (.var 2) (.call 13 2 [.peek 0, .bin .Add (.bin .Sub (.var 3) (.var 2)) (.cst (.int 1))])) (.tup [.name 2, .name 3]) (.seq (.call 22 1 [.var 1])) (.hole) [2, 3]])]
def N__law_known : List PySem.Str := ["one", "two", "inner"]
def ir__law_known : List IS := [.asg (.name 0) (.tup [.cst (.str z_stops), .cst (.int 0), .cst (.int 9), .tup [], .tup [.tup [.cst (.int 1), .cst (.int 3)], .tup [.cst (.int 2), .cst (.int 8)], .tup [.neg (.cst (.int 4)), .cst (.int 0)]]]), .asg (.name 1) (.tup [.cst (.str z_stops), .neg (.cst (.int 9)), .cst (.int 9), .tup [], .tup [.tup [.cst (.int 0), .cst (.int 4)], .tup [.cst (.str z_turns), .cst (.int 0), .cst (.int 9), .tup [], .tup [.tup [.cst (.int 0), .cst (.int 12)]]], .tup [.neg (.cst (.int 3)), .cst (.int 0)]]]), .asg (.name 2) (.tup [.cst (.str z_stops), .cst (.int 0), .cst (.int 30), .tup [.cst (.str z_near), .cst (.int 10)], .tup [.tup [.cst (.int 0), .cst (.int 20)], .tup [.cst (.int 0), .cst (.int 6)]]]), .ret (.lst [.var 0, .var 1, .tup [.cst (.str z_stops), .cst (.int 0), .cst (.int 20), .tup [], .tup [.var 2, .tup [.cst (.int 0), .cst (.int 4)]]], .tup [.cst (.str z_stops), .cst (.int 0), .cst (.int 9), .tup [], .tup [.tup [.cst (.int 0), .cst (.int 9)]]]])]
def N__law_refused : List PySem.Str := ["vat", "board", "numbers", "odds", "odd", "words"]
def ir__law_refused : List IS := [.asg (.name 2) (.call 53 2 [.peek 0, .var 1]), .asg (.name 3) (.lst [.cst .none, .prim .list [.var 2], .sl (.var 2) (.cst (.int 1)) (.hole), .bin .Add (.var 2) (.tup [.cst (.int 0)]), .bin .Mult (.tup [.cst (.bool true)]) (.prim .len [.var 2]), .bin .Add (.tup [.cst (.int 21)]) (.sl (.var 2) (.cst (.int 1)) (.hole))]), .for_ (.name 4) (.seq (.var 3)) [.asg (.name 5) (.lst [.att 0 (.call 43 2 [.var 1, .var 4]), .att 0 (.call 44 2 [.var 1, .var 4])]), .asg (.name 5) (.bin .Add (.var 5) (.lst [.att 0 (.call 45 2 [.var 1, .var 4]), .att 0 (.call 47 3 [.var 1, .var 4, .cst .none])])), .ifs (.cmp .NotEq (.var 5) (.bin .Mult (.lst [.cst (.str z_numbers_value)]) (.cst (.int 4)))) [.ret (.cst (.bool false))] []], .asg (.name 5) (.comp (.att 0 (.call 47 3 [.var 1, .var 2, .var 4])) (.name 4) (.seq (.lst [.cst .none, .lst [], .tup [.cst (.int 5)], .tup [.tup [.cst (.str z_caught), .cst (.int 9), .cst (.bool true)]]])) (.hole) [4]), .ifs (.or (.cmp .NotEq (.var 5) (.bin .Mult (.lst [.cst (.str z_facts_value)]) (.cst (.int 4)))) (.cmp .NotEq (.att 0 (.call 43 2 [.cst .none, .cst .none])) (.cst (.str z_board_value)))) [.ret (.cst (.bool false))] [], .ifs (.cmp .NotEq (.att 0 (.call 47 3 [.sl (.var 1) (.hole) (.cst (.int 4)), .cst .none, .cst .none])) (.cst (.str z_board_value))) [.ret (.cst (.bool false))] [], .ret (.cst (.bool true))]
def N__law_written_k02 : List PySem.Str := ["one", "two", "three", "four", "found", "round_so", "numbers", "near"]
def ir__law_written_k02 : List IS := [.asg (.tup [.name 0, .name 1, .name 2, .name 3]) (.call0 54), .asg (.name 4) (.lst [.call 43 2 [.var 0, .tup [.cst (.int 3), .cst (.int 8), .neg (.cst (.int 2))]], .call 44 2 [.var 0, .tup [.cst (.int 3), .cst (.int 8), .neg (.cst (.int 2))]], .call 43 2 [.var 1, .tup [.cst (.int 4), .cst (.int 11), .neg (.cst (.int 1))]], .call 44 2 [.var 1, .tup [.cst (.int 4), .cst (.int 11), .neg (.cst (.int 1))]]]), .ifs (.or (.cmp .NotEq (.var 4) (.lst [.lst [.cst (.int 7)], .lst [.cst (.int 0)], .lst [.cst (.int 4), .cst (.int 1)], .lst [.cst (.int 1)]])) (.or (.cmp .NotEq (.call 43 2 [.var 2, .tup [.cst (.int 7), .cst (.int 6), .cst (.int 3)]]) (.lst [.cst (.int 13), .cst (.int 13)])) (.cmp .NotEq (.call 45 2 [.var 2, .tup [.cst (.int 7), .cst (.int 6), .cst (.int 3)]]) (.neg (.cst (.int 3)))))) [.ret (.cst (.bool false))] [], .asg (.name 5) (.tup [.cst (.str z_turns), .neg (.cst (.int 2)), .cst (.int 2), .tup [], .tup [.tup [.neg (.cst (.int 20)), .cst (.int 20)], .tup [.cst (.str z_stops), .neg (.cst (.int 9)), .cst (.int 9), .tup [.cst (.str z_down), .cst (.int 4)], .tup [.tup [.neg (.cst (.int 9)), .cst (.int 9)]]], .tup [.cst (.int 0), .cst (.int 0)]]]), .asg (.name 4) (.comp (.ix (.call 43 2 [.var 5, .var 6]) (.cst (.int 0))) (.name 6) (.seq (.lst [.tup [.cst (.int 13), .cst (.int 0), .cst (.int 0)], .tup [.neg (.cst (.int 13)), .cst (.int 3), .cst (.int 0)], .tup [.cst (.int 0), .neg (.cst (.int 1)), .cst (.int 0)], .tup [.cst (.int 3), .cst (.int 9), .cst (.int 0)]])) (.hole) [6]), .asg (.name 7) (.tup [.cst (.str z_stops), .neg (.cst (.int 9)), .cst (.int 9), .tup [], .tup [.tup [.cst (.str z_stops), .neg (.cst (.int 9)), .cst (.int 9), .tup [.cst (.str z_near), .cst (.int 5)], .tup [.tup [.neg (.cst (.int 9)), .cst (.int 9)]]], .tup [.cst (.str z_stops), .neg (.cst (.int 9)), .cst (.int 9), .tup [.cst (.str z_near), .cst (.int 4)], .tup [.tup [.neg (.cst (.int 9)), .cst (.int 9)]]]]]), .ifs (.or (.cmp .NotEq (.var 4) (.lst [.neg (.cst (.int 2)), .cst (.int 2), .cst (.int 1), .cst (.int 1)])) (.cmp .NotEq (.comp (.ix (.call 43 2 [.var 7, .var 6]) (.cst (.int 0))) (.name 6) (.seq (.lst [.tup [.cst (.int 2), .cst (.int 2)], .tup [.cst (.int 3), .neg (.cst (.int 2))], .tup [.neg (.cst (.int 3)), .cst (.int 1)], .tup [.neg (.cst (.int 2)), .neg (.cst (.int 3))]])) (.hole) [6]) (.lst [.cst (.int 4), .cst (.int 5), .neg (.cst (.int 5)), .neg (.cst (.int 4))]))) [.ret (.cst (.bool false))] [], .ret (.and (.cmp .Is (.call 47 3 [.var 0, .tup [.cst (.int 1), .cst (.int 2), .cst (.int 0)], .tup [.tup [.cst (.str z_caught), .cst (.int 0), .cst (.bool true)]]]) (.cst (.bool false))) (.cmp .Eq (.call 45 2 [.var 3, .tup [.cst (.int 9)]]) (.cst (.int 0))))]
def N_law_k02 : List PySem.Str := ["script", "k", "vat", "board", "turn", "numbers", "facts", "rows", "row", "at", "good", "fact"]
def ir_law_k02 : List IS := [.for_ (.name 1) (.rng1 (.prim .max [.cst (.int 6), .prim .min [.cst (.int 14), .prim .len [.var 0]]])) [.setF 2 (.call 12 2 [.var 0, .var 1]), .asg (.name 3) (.call 21 2 [.peek 2, .cst (.int 4)]), .for_ (.name 4) (.rng1 (.cst (.int 8))) [.par [5, 6] [.v (.call 53 2 [.peek 2, .var 3]), .v (.call 25 3 [.peek 2, .var 3, .cst (.int 3)])], .asg (.name 7) (.call 51 2 [.var 3, .var 5]), .ifs (.cmp .NotEq (.call 43 2 [.var 3, .var 5]) (.comp (.ix (.var 8) (.cst (.int 0))) (.name 8) (.seq (.var 7)) (.hole) [8])) [.ret (.cst (.bool false))] [], .ifs (.cmp .NotEq (.call 44 2 [.var 3, .var 5]) (.comp (.var 9) (.tup [.name 9, .name 8]) (.enum (.var 7)) (.ix (.var 8) (.cst (.int 1))) [8, 9])) [.ret (.cst (.bool false))] [], .ifs (.cmp .NotEq (.call 45 2 [.var 3, .var 5]) (.bin .Sub (.ix (.ix (.var 7) (.cst (.int 0))) (.cst (.int 0))) (.prim .sum [.var 5]))) [.ret (.cst (.bool false))] [], .asg (.name 10) (.cmp .Eq (.comp (.var 11) (.name 11) (.seq (.var 6)) (.not (.call 52 3 [.var 11, .var 7, .var 5])) [11]) (.lst [])), .ifs (.not (.call 16 2 [.call 47 3 [.var 3, .var 5, .var 6], .var 10])) [.ret (.cst (.bool false))] []], .ifs (.not (.call 55 2 [.peek 2, .var 3])) [.ret (.cst (.bool false))] []], .ret (.call0 56)]
end K
namespace K
open PySem PySem.Spec L2 Fw
def top (i : Nat) : Stmt := PySem.Challenge.pw_anytallies_k02_whole_what_is_shown.main.body.getD i (.Pass ⟨0, 0, 0, 0⟩)
def Γ : Gm := { fns := ([("is_whole", 0, 3), ("is_slip", 1, 1), ("is_hand", 2, 1), ("is_counter", 3, 2), ("slips_of", 4, 1), ("counters_of", 5, 1), ("is_board", 6, 1), ("need_board", 7, 1), ("is_fact", 8, 2), ("are_facts", 9, 2), ("need_facts", 37, 2), ("settled", 38, 4), ("handed", 39, 2), ("need_numbers", 40, 2), ("led", 41, 3), ("rows_of", 42, 2), ("shown", 43, 2), ("caught", 44, 2), ("off", 45, 2), ("is_so", 46, 3)] : List (PySem.Str × Nat × Nat)) ++ ([("keeps", 47, 3), ("_law_vat", 12, 2), ("_law_under", 13, 2), ("_law_some", 14, 2), ("_law_truly", 16, 2), ("_law_slip", 17, 1), ("_law_hand", 18, 1), ("_law_counter", 19, 3), ("_law_inner", 20, 1), ("_law_board", 21, 2), ("_law_slips", 22, 1), ("_law_counters", 23, 1), ("_law_settled", 48, 2), ("_law_handed", 49, 2), ("_law_led", 50, 2), ("_law_rows", 51, 2), ("_law_so", 52, 3), ("_law_fact", 24, 2), ("_law_facts", 25, 3), ("_law_numbers", 53, 2)] : List (PySem.Str × Nat × Nat)) ++ ([("_law_names", 32, 1), ("_law_error", 33, 1), ("_law_known", 54, 0), ("_law_refused", 55, 2), ("_law_written", 56, 0), ("law", 57, 1)] : List (PySem.Str × Nat × Nat)), excs := [("TallyError", 0), ("InvalidBoard", 1), ("InvalidNumbers", 2), ("InvalidFacts", 3), ("InvalidIndex", 4), ("InvalidNumber", 5), ("InvalidOrder", 6), ("InvalidText", 7), ("Impossible", 8), ("Unlike", 9), ("NothingToUndo", 10)], cst := [("FARTHEST", .int 20), ("END", .int 99), ("MOST_PARTS", .int 4), ("MOST_SLIPS", .int 8), ("MOST_COUNTERS", .int 6), ("DEEPEST", .int 2), ("MOST_FACTS", .int 6), ("WIDEST", .int 999)], blt := ["len", "abs", "int", "max", "min", "all", "any", "list", "tuple", "range", "enumerate", "zip", "isinstance", "str", "bool", "sum", "sorted", "set", "dict"], atts := [("_law_error", 0)] }
abbrev s_is_whole : Stmt := top 22
abbrev s_is_slip : Stmt := top 23
abbrev s_is_hand : Stmt := top 24
abbrev s_is_counter : Stmt := top 25
abbrev s_slips_of : Stmt := top 26
abbrev s_counters_of : Stmt := top 27
abbrev s_is_board : Stmt := top 28
abbrev s_need_board : Stmt := top 29
abbrev s_is_fact : Stmt := top 30
abbrev s_are_facts : Stmt := top 31
abbrev s_need_facts : Stmt := top 32
abbrev s_settled : Stmt := top 34
abbrev s_handed : Stmt := top 35
abbrev s_need_numbers : Stmt := top 36
abbrev s_led : Stmt := top 37
abbrev s_rows_of : Stmt := top 38
abbrev s_shown : Stmt := top 39
abbrev s_caught : Stmt := top 40
abbrev s_off : Stmt := top 41
abbrev s_is_so : Stmt := top 42
abbrev s_keeps : Stmt := top 43
abbrev s__law_vat : Stmt := top 45
abbrev s__law_under : Stmt := top 46
abbrev s__law_some : Stmt := top 47
abbrev s__law_truly : Stmt := top 48
abbrev s__law_slip : Stmt := top 49
abbrev s__law_hand : Stmt := top 50
abbrev s__law_counter : Stmt := top 51
abbrev s__law_inner : Stmt := top 52
abbrev s__law_board : Stmt := top 53
abbrev s__law_slips : Stmt := top 54
abbrev s__law_counters : Stmt := top 55
abbrev s__law_settled : Stmt := top 56
abbrev s__law_handed : Stmt := top 57
abbrev s__law_led : Stmt := top 58
abbrev s__law_rows : Stmt := top 59
abbrev s__law_so : Stmt := top 60
abbrev s__law_fact : Stmt := top 61
abbrev s__law_facts : Stmt := top 62
abbrev s__law_numbers : Stmt := top 63
abbrev s__law_names : Stmt := top 64
abbrev s__law_error : Stmt := top 65
abbrev s__law_known : Stmt := top 66
abbrev s__law_refused : Stmt := top 67
abbrev s__law_written : Stmt := top 68
abbrev s_law : Stmt := top 69
theorem sc_is_whole : FnScope N_is_whole ["value", "low", "high"] (defScope s_is_whole) := ⟨rfl, rfl, rfl, by decide +kernel, rfl, by decide +kernel, by decide +kernel⟩
theorem ck_is_whole : chkSs Γ (cnOf N_is_whole s_is_whole) ir_is_whole (defBody s_is_whole) = true := by decide +kernel
theorem sc_is_slip : FnScope N_is_slip ["value"] (defScope s_is_slip) := ⟨rfl, rfl, rfl, by decide +kernel, rfl, by decide +kernel, by decide +kernel⟩
theorem ck_is_slip : chkSs Γ (cnOf N_is_slip s_is_slip) ir_is_slip (defBody s_is_slip) = true := by decide +kernel
theorem sc_is_hand : FnScope N_is_hand ["value"] (defScope s_is_hand) := ⟨rfl, rfl, rfl, by decide +kernel, rfl, by decide +kernel, by decide +kernel⟩
theorem ck_is_hand : chkSs Γ (cnOf N_is_hand s_is_hand) ir_is_hand (defBody s_is_hand) = true := by decide +kernel
theorem sc_is_counter : FnScope N_is_counter ["value", "deep"] (defScope s_is_counter) := ⟨rfl, rfl, rfl, by decide +kernel, rfl, by decide +kernel, by decide +kernel⟩
theorem ck_is_counter : chkSs Γ (cnOf N_is_counter s_is_counter) ir_is_counter (defBody s_is_counter) = true := by decide +kernel
theorem sc_slips_of : FnScope N_slips_of ["part"] (defScope s_slips_of) := ⟨rfl, rfl, rfl, by decide +kernel, rfl, by decide +kernel, by decide +kernel⟩
theorem ck_slips_of : chkSs Γ (cnOf N_slips_of s_slips_of) ir_slips_of (defBody s_slips_of) = true := by decide +kernel
theorem sc_counters_of : FnScope N_counters_of ["part"] (defScope s_counters_of) := ⟨rfl, rfl, rfl, by decide +kernel, rfl, by decide +kernel, by decide +kernel⟩
theorem ck_counters_of : chkSs Γ (cnOf N_counters_of s_counters_of) ir_counters_of (defBody s_counters_of) = true := by decide +kernel
theorem sc_is_board : FnScope N_is_board ["value"] (defScope s_is_board) := ⟨rfl, rfl, rfl, by decide +kernel, rfl, by decide +kernel, by decide +kernel⟩
theorem ck_is_board : chkSs Γ (cnOf N_is_board s_is_board) ir_is_board (defBody s_is_board) = true := by decide +kernel
theorem sc_need_board : FnScope N_need_board ["board"] (defScope s_need_board) := ⟨rfl, rfl, rfl, by decide +kernel, rfl, by decide +kernel, by decide +kernel⟩
theorem ck_need_board : chkSs Γ (cnOf N_need_board s_need_board) ir_need_board (defBody s_need_board) = true := by decide +kernel
theorem sc_is_fact : FnScope N_is_fact ["board", "value"] (defScope s_is_fact) := ⟨rfl, rfl, rfl, by decide +kernel, rfl, by decide +kernel, by decide +kernel⟩
theorem ck_is_fact : chkSs Γ (cnOf N_is_fact s_is_fact) ir_is_fact (defBody s_is_fact) = true := by decide +kernel
theorem sc_are_facts : FnScope N_are_facts ["board", "value"] (defScope s_are_facts) := ⟨rfl, rfl, rfl, by decide +kernel, rfl, by decide +kernel, by decide +kernel⟩
theorem ck_are_facts : chkSs Γ (cnOf N_are_facts s_are_facts) ir_are_facts (defBody s_are_facts) = true := by decide +kernel
theorem sc_need_facts : FnScope N_need_facts ["board", "facts"] (defScope s_need_facts) := ⟨rfl, rfl, rfl, by decide +kernel, rfl, by decide +kernel, by decide +kernel⟩
theorem ck_need_facts : chkSs Γ (cnOf N_need_facts s_need_facts) ir_need_facts (defBody s_need_facts) = true := by decide +kernel
theorem sc_settled : FnScope N_settled ["kind", "low", "high", "number"] (defScope s_settled) := ⟨rfl, rfl, rfl, by decide +kernel, rfl, by decide +kernel, by decide +kernel⟩
theorem ck_settled : chkSs Γ (cnOf N_settled s_settled) ir_settled (defBody s_settled) = true := by decide +kernel
theorem sc_handed : FnScope N_handed ["hand", "number"] (defScope s_handed) := ⟨rfl, rfl, rfl, by decide +kernel, rfl, by decide +kernel, by decide +kernel⟩
theorem ck_handed : chkSs Γ (cnOf N_handed s_handed) ir_handed (defBody s_handed) = true := by decide +kernel
theorem sc_need_numbers : FnScope N_need_numbers ["board", "numbers"] (defScope s_need_numbers) := ⟨rfl, rfl, rfl, by decide +kernel, rfl, by decide +kernel, by decide +kernel⟩
theorem ck_need_numbers : chkSs Γ (cnOf N_need_numbers s_need_numbers) ir_need_numbers (defBody s_need_numbers) = true := by decide +kernel
theorem sc_led : FnScope N_led ["counter", "numbers", "rows"] (defScope s_led) := ⟨rfl, rfl, rfl, by decide +kernel, rfl, by decide +kernel, by decide +kernel⟩
theorem ck_led : chkSs Γ (cnOf N_led s_led) ir_led (defBody s_led) = true := by decide +kernel
theorem sc_rows_of : FnScope N_rows_of ["board", "numbers"] (defScope s_rows_of) := ⟨rfl, rfl, rfl, by decide +kernel, rfl, by decide +kernel, by decide +kernel⟩
theorem ck_rows_of : chkSs Γ (cnOf N_rows_of s_rows_of) ir_rows_of (defBody s_rows_of) = true := by decide +kernel
theorem sc_shown : FnScope N_shown ["board", "numbers"] (defScope s_shown) := ⟨rfl, rfl, rfl, by decide +kernel, rfl, by decide +kernel, by decide +kernel⟩
theorem ck_shown : chkSs Γ (cnOf N_shown s_shown) ir_shown (defBody s_shown) = true := by decide +kernel
theorem sc_caught : FnScope N_caught ["board", "numbers"] (defScope s_caught) := ⟨rfl, rfl, rfl, by decide +kernel, rfl, by decide +kernel, by decide +kernel⟩
theorem ck_caught : chkSs Γ (cnOf N_caught s_caught) ir_caught (defBody s_caught) = true := by decide +kernel
theorem sc_off : FnScope N_off ["board", "numbers"] (defScope s_off) := ⟨rfl, rfl, rfl, by decide +kernel, rfl, by decide +kernel, by decide +kernel⟩
theorem ck_off : chkSs Γ (cnOf N_off s_off) ir_off (defBody s_off) = true := by decide +kernel
theorem sc_is_so : FnScope N_is_so ["fact", "rows", "numbers"] (defScope s_is_so) := ⟨rfl, rfl, rfl, by decide +kernel, rfl, by decide +kernel, by decide +kernel⟩
theorem ck_is_so : chkSs Γ (cnOf N_is_so s_is_so) ir_is_so (defBody s_is_so) = true := by decide +kernel
theorem sc_keeps : FnScope N_keeps ["board", "numbers", "facts"] (defScope s_keeps) := ⟨rfl, rfl, rfl, by decide +kernel, rfl, by decide +kernel, by decide +kernel⟩
theorem ck_keeps : chkSs Γ (cnOf N_keeps s_keeps) ir_keeps (defBody s_keeps) = true := by decide +kernel
theorem sc__law_vat : FnScope N__law_vat ["script", "k"] (defScope s__law_vat) := ⟨rfl, rfl, rfl, by decide +kernel, rfl, by decide +kernel, by decide +kernel⟩
theorem ck__law_vat : chkSs Γ (cnOf N__law_vat s__law_vat) ir__law_vat (defBody s__law_vat) = true := by decide +kernel
theorem sc__law_under : FnScope N__law_under ["vat", "many"] (defScope s__law_under) := ⟨rfl, rfl, rfl, by decide +kernel, rfl, by decide +kernel, by decide +kernel⟩
theorem ck__law_under : chkSs Γ (cnOf N__law_under s__law_under) ir__law_under (defBody s__law_under) = true := by decide +kernel
theorem sc__law_some : FnScope N__law_some ["vat", "things"] (defScope s__law_some) := ⟨rfl, rfl, rfl, by decide +kernel, rfl, by decide +kernel, by decide +kernel⟩
theorem ck__law_some : chkSs Γ (cnOf N__law_some s__law_some) ir__law_some (defBody s__law_some) = true := by decide +kernel
theorem sc__law_truly : FnScope N__law_truly ["found", "due"] (defScope s__law_truly) := ⟨rfl, rfl, rfl, by decide +kernel, rfl, by decide +kernel, by decide +kernel⟩
theorem ck__law_truly : chkSs Γ (cnOf N__law_truly s__law_truly) ir__law_truly (defBody s__law_truly) = true := by decide +kernel
theorem sc__law_slip : FnScope N__law_slip ["vat"] (defScope s__law_slip) := ⟨rfl, rfl, rfl, by decide +kernel, rfl, by decide +kernel, by decide +kernel⟩
theorem ck__law_slip : chkSs Γ (cnOf N__law_slip s__law_slip) ir__law_slip (defBody s__law_slip) = true := by decide +kernel
theorem sc__law_hand : FnScope N__law_hand ["vat"] (defScope s__law_hand) := ⟨rfl, rfl, rfl, by decide +kernel, rfl, by decide +kernel, by decide +kernel⟩
theorem ck__law_hand : chkSs Γ (cnOf N__law_hand s__law_hand) ir__law_hand (defBody s__law_hand) = true := by decide +kernel
theorem sc__law_counter : FnScope N__law_counter ["vat", "hand", "parts"] (defScope s__law_counter) := ⟨rfl, rfl, rfl, by decide +kernel, rfl, by decide +kernel, by decide +kernel⟩
theorem ck__law_counter : chkSs Γ (cnOf N__law_counter s__law_counter) ir__law_counter (defBody s__law_counter) = true := by decide +kernel
theorem sc__law_inner : FnScope N__law_inner ["vat"] (defScope s__law_inner) := ⟨rfl, rfl, rfl, by decide +kernel, rfl, by decide +kernel, by decide +kernel⟩
theorem ck__law_inner : chkSs Γ (cnOf N__law_inner s__law_inner) ir__law_inner (defBody s__law_inner) = true := by decide +kernel
theorem sc__law_board : FnScope N__law_board ["vat", "most"] (defScope s__law_board) := ⟨rfl, rfl, rfl, by decide +kernel, rfl, by decide +kernel, by decide +kernel⟩
theorem ck__law_board : chkSs Γ (cnOf N__law_board s__law_board) ir__law_board (defBody s__law_board) = true := by decide +kernel
theorem sc__law_slips : FnScope N__law_slips ["part"] (defScope s__law_slips) := ⟨rfl, rfl, rfl, by decide +kernel, rfl, by decide +kernel, by decide +kernel⟩
theorem ck__law_slips : chkSs Γ (cnOf N__law_slips s__law_slips) ir__law_slips (defBody s__law_slips) = true := by decide +kernel
theorem sc__law_counters : FnScope N__law_counters ["part"] (defScope s__law_counters) := ⟨rfl, rfl, rfl, by decide +kernel, rfl, by decide +kernel, by decide +kernel⟩
theorem ck__law_counters : chkSs Γ (cnOf N__law_counters s__law_counters) ir__law_counters (defBody s__law_counters) = true := by decide +kernel
theorem sc__law_settled : FnScope N__law_settled ["counter", "number"] (defScope s__law_settled) := ⟨rfl, rfl, rfl, by decide +kernel, rfl, by decide +kernel, by decide +kernel⟩
theorem ck__law_settled : chkSs Γ (cnOf N__law_settled s__law_settled) ir__law_settled (defBody s__law_settled) = true := by decide +kernel
theorem sc__law_handed : FnScope N__law_handed ["hand", "number"] (defScope s__law_handed) := ⟨rfl, rfl, rfl, by decide +kernel, rfl, by decide +kernel, by decide +kernel⟩
theorem ck__law_handed : chkSs Γ (cnOf N__law_handed s__law_handed) ir__law_handed (defBody s__law_handed) = true := by decide +kernel
theorem sc__law_led : FnScope N__law_led ["counter", "numbers"] (defScope s__law_led) := ⟨rfl, rfl, rfl, by decide +kernel, rfl, by decide +kernel, by decide +kernel⟩
theorem ck__law_led : chkSs Γ (cnOf N__law_led s__law_led) ir__law_led (defBody s__law_led) = true := by decide +kernel
theorem sc__law_rows : FnScope N__law_rows ["board", "numbers"] (defScope s__law_rows) := ⟨rfl, rfl, rfl, by decide +kernel, rfl, by decide +kernel, by decide +kernel⟩
theorem ck__law_rows : chkSs Γ (cnOf N__law_rows s__law_rows) ir__law_rows (defBody s__law_rows) = true := by decide +kernel
theorem sc__law_so : FnScope N__law_so ["fact", "rows", "numbers"] (defScope s__law_so) := ⟨rfl, rfl, rfl, by decide +kernel, rfl, by decide +kernel, by decide +kernel⟩
theorem ck__law_so : chkSs Γ (cnOf N__law_so s__law_so) ir__law_so (defBody s__law_so) = true := by decide +kernel
theorem sc__law_fact : FnScope N__law_fact ["vat", "board"] (defScope s__law_fact) := ⟨rfl, rfl, rfl, by decide +kernel, rfl, by decide +kernel, by decide +kernel⟩
theorem ck__law_fact : chkSs Γ (cnOf N__law_fact s__law_fact) ir__law_fact (defBody s__law_fact) = true := by decide +kernel
theorem sc__law_facts : FnScope N__law_facts ["vat", "board", "most"] (defScope s__law_facts) := ⟨rfl, rfl, rfl, by decide +kernel, rfl, by decide +kernel, by decide +kernel⟩
theorem ck__law_facts : chkSs Γ (cnOf N__law_facts s__law_facts) ir__law_facts (defBody s__law_facts) = true := by decide +kernel
theorem sc__law_numbers : FnScope N__law_numbers ["vat", "board"] (defScope s__law_numbers) := ⟨rfl, rfl, rfl, by decide +kernel, rfl, by decide +kernel, by decide +kernel⟩
theorem ck__law_numbers : chkSs Γ (cnOf N__law_numbers s__law_numbers) ir__law_numbers (defBody s__law_numbers) = true := by decide +kernel
theorem sc__law_known : FnScope N__law_known [] (defScope s__law_known) := ⟨rfl, rfl, rfl, by decide +kernel, rfl, by decide +kernel, by decide +kernel⟩
theorem ck__law_known : chkSs Γ (cnOf N__law_known s__law_known) ir__law_known (defBody s__law_known) = true := by decide +kernel
theorem sc__law_refused : FnScope N__law_refused ["vat", "board"] (defScope s__law_refused) := ⟨rfl, rfl, rfl, by decide +kernel, rfl, by decide +kernel, by decide +kernel⟩
theorem ck__law_refused : chkSs Γ (cnOfA N__law_refused s__law_refused) ir__law_refused (defBody s__law_refused) = true := by decide +kernel
theorem sc__law_written : FnScope N__law_written_k02 [] (defScope s__law_written) := ⟨rfl, rfl, rfl, by decide +kernel, rfl, by decide +kernel, by decide +kernel⟩
theorem ck__law_written : chkSs Γ (cnOf N__law_written_k02 s__law_written) ir__law_written_k02 (defBody s__law_written) = true := by decide +kernel
theorem sc_law : FnScope N_law_k02 ["script"] (defScope s_law) := ⟨rfl, rfl, rfl, by decide +kernel, rfl, by decide +kernel, by decide +kernel⟩
theorem ck_law : chkSs Γ (cnOf N_law_k02 s_law) ir_law_k02 (defBody s_law) = true := by decide +kernel
end K
namespace Fw
open PySem PySem.Spec L2
/-! ### [word for word, good in zip(words, goods) if good] -/
def sel (ws : List Str) (bs : List Bool) : List Str := ((ws.zip bs).filter (·.2)).map (·.1)
theorem sel_succ {ws : List Str} {bs : List Bool} {i : Nat} {w : Str} {c : Bool} (hw : ws[i]? = some w) (hc : bs[i]? = some c) : sel (ws.take (i + 1)) (bs.take (i + 1)) = sel (ws.take i) (bs.take i) ++ (if c = true then [w] else []) := by
  have h1 : ws.take (i + 1) = ws.take i ++ [w] := by rw [List.take_succ, hw]; rfl
  have h2 : bs.take (i + 1) = bs.take i ++ [c] := by rw [List.take_succ, hc]; rfl
  have hi1 : i < ws.length := (List.getElem?_eq_some_iff.mp hw).1
  have hi2 : i < bs.length := (List.getElem?_eq_some_iff.mp hc).1
  unfold sel
  rw [h1, h2, List.zip_append (by rw [List.length_take, List.length_take]; omega), List.filter_append, List.map_append]
  cases c <;> rfl
theorem sel_all (ws : List Str) (bs : List Bool) (n : Nat) (h1 : ws.length ≤ n) (h2 : bs.length ≤ n) : sel (ws.take n) (bs.take n) = sel ws bs := by
  rw [List.take_of_length_le h1, List.take_of_length_le h2]
theorem sel_len (ws : List Str) (bs : List Bool) : (sel ws bs).length ≤ ws.length := by
  unfold sel
  rw [List.length_map]
  refine Nat.le_trans (List.length_filter_le _ _) ?_
  rw [List.length_zip]; omega
theorem sq_mono {K : PySem.W.Frag} {H H' : Hp} {a : Addr} {xs : List V} (h : SqL K H a xs) (s : ∀ c o, H c = some o → H' c = some o) : SqL K H' a xs :=
  h.imp (fun z => z.imp (s _ _) fun ⟨o, z⟩ => ⟨o, s _ _ z⟩) id
theorem sel_lc {K : PySem.W.Frag} {G : Hp → Prop} (g : GOk G) {a b D : Addr} {ws : List Str} {bs : List Bool} (hz : ws.length ≤ 1000) {σ : St} {H1 : Hp} (hD : H1 D = none) (ha : SqL K H1 a (ws.map V.str)) (hb : SqL K H1 b (bs.map V.bl)) (hG : G H1) (hn : bs.length = ws.length) (h5 : σ.length = 5) {Qd : Hp → Prop}
    (hq : ∀ H, (∀ c o, H1 c = some o → H c = some o) → G H → H D = some (.lst ((sel ws bs).map V.str)) → Qd H) :
    ∃ W : Nat → Nat → Hp → Prop, (∃ m, W 0 m (upd H1 D (.lst []))) ∧ ∀ i m H, W i m H →
      ((Itz K a b).stop i H ∧ Qd H) ∨ ((Itz K a b).go i H ∧ ∃ Nx : Hp → Prop, (∀ H', Nx H' → ∃ m', m' < m ∧ W (i + 1) m' H') ∧ ∀ x H', (Itz K a b).yld i H x H' → gTup K 2 (gCons (gName 3) (gCons (gName 4) gNil)) x (wipe σ [3, 4]) H' fun σ2 H2 => wipe σ2 [3, 4] = wipe σ [3, 4] ∧ tB (tVar 4) σ2 H2 fun b H3 =>
        if b = true then tVar 3 σ2 H3 fun y H4 => ∃ acc, H4 D = some (.lst acc) ∧ acc.length < sizeLine ∧ Nx (upd H4 D (.lst (acc ++ [y]))) else Nx H3) := by
  have hm : (ws.map V.str).length = ws.length := List.length_map ..
  have hm2 : (bs.map V.bl).length = ws.length := by rw [List.length_map, hn]
  refine lc_it (walk_zip (n := ws.length) (by rw [hm, hm2, Nat.min_self])) (fun i H => H D = some (.lst ((sel (ws.take i) (bs.take i)).map V.str)) ∧ (∀ c o, H1 c = some o → H c = some o) ∧ G H) ?_ (fun i H hi h => ⟨sq_mono ha h.2.1, sq_mono hb h.2.1⟩) (fun i x H H' hi h y => ?_) (fun H h => ?_)
  · exact ⟨upd_same, fun c o e => by rw [upd_ne (fun z => by rw [z, hD] at e; cases e)]; exact e, g.new hG hD⟩
  · obtain ⟨h1, h2, h3⟩ := h
    obtain ⟨T, u, v, rfl, hT, rfl, hu, hv⟩ := y
    have hu : (ws.map V.str)[i]? = some u := hu
    have hv : (bs.map V.bl)[i]? = some v := hv
    rw [List.getElem?_map] at hu hv
    obtain ⟨w, hw, rfl⟩ := Option.map_eq_some_iff.mp hu
    obtain ⟨c, hc, rfl⟩ := Option.map_eq_some_iff.mp hv
    have nD : D ≠ T := fun z => by rw [z, hT] at h1; cases h1
    refine ⟨T, [.str w, .bl c], rfl, .inl (.inl upd_same), rfl, .str w, [.bl c], rfl, .bl c, [], rfl, rfl, ?_, .bl c, ?_, c, rfl, ?_⟩
    · match σ, h5 with
      | [s0, s1, s2, s3, s4], _ => rfl
    · match σ, h5 with
      | [s0, s1, s2, s3, s4], _ => rfl
    have ss := sel_succ hw hc
    have keep : ∀ d o, H1 d = some o → upd H T (.tup [.str w, .bl c]) d = some o := fun d o e => by
      rw [upd_ne (fun z => by rw [z] at e; rw [h2 T o e] at hT; cases hT)]; exact h2 d o e
    have gT : G (upd H T (.tup [.str w, .bl c])) := g.new h3 hT
    have hDT : upd H T (.tup [.str w, .bl c]) D = some (.lst ((sel (ws.take i) (bs.take i)).map V.str)) := by rw [upd_ne nD]; exact h1
    cases c with
    | false =>
      dsimp only
      rw [if_neg Bool.false_ne_true]
      refine ⟨?_, keep, gT⟩
      rw [ss, if_neg Bool.false_ne_true, List.append_nil]; exact hDT
    | true =>
      dsimp only
      rw [if_pos rfl]
      refine ⟨.str w, ?_, _, hDT, ?_, upd_same.trans ?_, fun d o e => ?_, g.set gT hDT⟩
      · match σ, h5 with
        | [s0, s1, s2, s3, s4], _ => rfl
      · rw [List.length_map]
        refine Nat.lt_of_le_of_lt (Nat.le_trans (sel_len _ _) (List.length_take_le _ _)) ?_
        exact Nat.lt_of_lt_of_le hi (Nat.le_trans hz (by decide))
      · rw [ss, if_pos rfl, List.map_append]; rfl
      · rw [upd_ne (fun z => by rw [z, hD] at e; cases e)]; exact keep d o e
  · refine hq H h.2.1 h.2.2 ?_
    rw [← sel_all ws bs ws.length (Nat.le_refl _) (by omega)]; exact h.1
end Fw
namespace Fw
open PySem PySem.Spec L2
theorem sel_sum : ∀ (ws : List Str) (bs : List Bool), ((sel ws bs).map (·.length)).sum ≤ (ws.map (·.length)).sum
  | [], bs => by simp [sel]
  | w :: ws, [] => by simp [sel]
  | w :: ws, b :: bs => by
    have ih := sel_sum ws bs
    have e : sel (w :: ws) (b :: bs) = if b = true then w :: sel ws bs else sel ws bs := by cases b <;> rfl
    rw [e]
    cases b <;> simp <;> omega
end Fw
namespace Fw
open PySem PySem.Spec L2
theorem sum_le {ws : List Str} {c : Nat} (h : ws.all (fun w => Nat.ble w.length c) = true) : (ws.map (·.length)).sum ≤ ws.length * c := by
  induction ws with
  | nil => simp
  | cons w ws ih =>
    rw [List.all_cons] at h
    have h := and2 h
    have h1 := Nat.le_of_ble_eq_true h.1
    have := ih h.2
    simp only [List.map_cons, List.sum_cons, List.length_cons, Nat.succ_mul]
    omega
theorem szl3 {n : Nat} (h : n ≤ 100000) : n ≤ sizeLine := Nat.le_trans h (by decide)
end Fw
namespace K
open PySem PySem.Spec L2 Fw
/-! ### the names of a caught error -/
def clsNames : List Str := ["InvalidBoard", "InvalidNumbers", "InvalidFacts", "InvalidIndex", "InvalidNumber", "InvalidOrder", "InvalidText", "Impossible", "Unlike", "NothingToUndo", "TooMany"]
def nmLabels : Str := "board numbers facts index number order text impossible unlike undo many value"
def nmSep : Str := " "
structure NmK (K : PySem.W.Frag) (mg : Str → Option Value) (Cs : List Addr) : Prop where
  len : Cs.length = 11
  g : ∀ (i : Nat) (x : Str) (c : Addr), clsNames[i]? = some x → Cs[i]? = some c → mg x = some (.ref c)
  ve : mg "ValueError" = none
  zp : mg "zip" = none
  ii : mg "isinstance" = none
structure NameOf (K : PySem.W.Frag) (Cs : List Addr) (D : Addr) (txt : Str) : Prop where
  e : ExcC K D
  bs : ∃ bs : List Bool, bs.length = 11 ∧ (∀ (i : Nat) (c : Addr) (b : Bool), Cs[i]? = some c → bs[i]? = some b → PySem.W.kitOne K (.ref D) (.ref c) = some b) ∧ PySem.W.kitOne K (.ref D) (.type "ValueError") = some true ∧ txt = Txt.join nmSep (sel (Txt.split nmLabels nmSep) (bs ++ [true]))
def spNames (K : PySem.W.Frag) (G : Hp → Prop) (Cs : List Addr) : Addr × Obj → Sp := fun p vs H Q _ => vs = [.ref p.1] ∧ G H ∧ ∃ (D : Addr) (txt : Str), Zc (.ref D) none p.2 ∧ (∃ us, p.2.data = .fields us) ∧ NameOf K Cs D txt ∧ ∀ H', Fw.Same H H' → G H' → Q (.str txt) H'
def N_names : List Str := ["e", "some", "labels", "word", "good"]
theorem sc_names : FnScope N_names ["e"] (defScope s__law_names) := ⟨rfl, rfl, rfl, by decide +kernel, rfl, by decide +kernel, by decide +kernel⟩
def scLc : Scope := match defBody s__law_names with
  | [_, _, .Return (some (.Call _ [.ListComp _ _ s _] _ _)) _] => s
  | _ => { kind := .function, names := [], isGenerator := false, isCoroutine := false }
theorem blk_names : BlkOk N_names (defScope s__law_names) scLc [(("word" : Str), 3), (("good" : Str), 4)] := by
  have h := blkOk_of (N := N_names) (sc := defScope s__law_names) (scope := scLc) (by decide +kernel)
  have e : ownOf N_names scLc = [(("word" : Str), 3), (("good" : Str), 4)] := by decide +kernel
  rw [e] at h; exact h
theorem isi_step {K : PySem.W.Frag} {D a : Addr} {c : V} {cv : Value} {b : Bool} {σ : L2.St} {H : Hp} {Q : VK} (h0 : σ[0]? = some (some (V.ref a))) (hc : ∀ u, RelV c u → u = cv) (hk : PySem.W.kitOne K (.ref D) cv = some b) (q : Q (.bl b) H) :
    tCB (rIsE K D a) (tCons (tVar 0) (tCons (tC c) tNil)) σ H Q := ⟨.ref a, h0, c, cv, b, rfl, hc, hk, q⟩
section
variable {P : Program} {w : World} {K : PySem.W.Frag} {mg : Str → Option Value} {base : Heap} {G : Hp → Prop} {Cs : List Addr} {f : Addr} {fd : FuncData} {k : Nat}
set_option maxHeartbeats 1000000
theorem names_ok (g : GOk G) (F : Fun K "_law_names" "_law_names" s__law_names f fd) (n : NmK K mg Cs) : FnHP P w K mg base C8.CX0 (k + 1) f fd ["e"] (spNames K G Cs) := by
  obtain ⟨oc, od, kV, doc, pm, an, cdv, ct, osl, rfl, lk, hcd⟩ := F.ex
  refine fn_ofHP lk hcd sc_names (fun p vs H Q E h => by rw [h.1]; rfl) fun A outer s H vs Q E p hot hr ⟨hv, hG, D, txt, hz, hf, hN, hQ⟩ => ?_
  subst hv
  have hmem : (p.1, p.2) ∈ (L2H.cxH C8.CX0 P w K mg base N_names "_law_names" (defScope s__law_names) f cdv A outer s H E p).pn := List.mem_singleton.mpr rfl
  have hC : L2H.HotC (L2H.cxH C8.CX0 P w K mg base N_names "_law_names" (defScope s__law_names) f cdv A outer s H E p) := ⟨p, hot, hmem⟩
  obtain ⟨c0, c1, c2, c3, c4, c5, c6, c7, c8, c9, c10, rfl⟩ : ∃ c0 c1 c2 c3 c4 c5 c6 c7 c8 c9 c10, Cs = [c0, c1, c2, c3, c4, c5, c6, c7, c8, c9, c10] := by
    match Cs, n.len with
    | [c0, c1, c2, c3, c4, c5, c6, c7, c8, c9, c10], _ => exact ⟨_, _, _, _, _, _, _, _, _, _, _, rfl⟩
  obtain ⟨bs, hb, hbk, hve, rfl⟩ := hN.bs
  obtain ⟨b0, b1, b2, b3, b4, b5, b6, b7, b8, b9, b10, rfl⟩ : ∃ b0 b1 b2 b3 b4 b5 b6 b7 b8 b9 b10, bs = [b0, b1, b2, b3, b4, b5, b6, b7, b8, b9, b10] := by
    match bs, hb with
    | [c0, c1, c2, c3, c4, c5, c6, c7, c8, c9, c10], _ => exact ⟨_, _, _, _, _, _, _, _, _, _, _, rfl⟩
  have isi := fun {x : Str} {c : Addr} {p1 p2 p3 p4 : Pos} (hg : Gl (L2H.cxH C8.CX0 P w K mg base N_names "_law_names" (defScope s__law_names) f cdv A outer s H E p) x) (hd : (x == ("__debug__" : Str)) = false) (hm : mg x = some (.ref c)) =>
    pe_callB (X := L2H.cxH C8.CX0 P w K mg base N_names "_law_names" (defScope s__law_names) f cdv A outer s H E p) (p := p1) (pos := p2) (x := "isinstance") (e := .Name "e" p3) (es := [.Name x p4]) (call_isEg hN.e hz hf hmem) rfl n.ii (by decide +kernel) (pa_cons (pv 0) (pa_cons (pe_glob (v := .ref c) hg hm rfl hd) pa_nil))
  refine ⟨_, pss_cons (ps_set (i := 1) sc_names.nd rfl (.inl rfl) (pe_lst
    (pa_cons (isi rfl (by decide) (n.g 0 _ c0 rfl rfl)) (pa_cons (isi rfl (by decide) (n.g 1 _ c1 rfl rfl)) (pa_cons (isi rfl (by decide) (n.g 2 _ c2 rfl rfl)) (pa_cons (isi rfl (by decide) (n.g 3 _ c3 rfl rfl))
    (pa_cons (isi rfl (by decide) (n.g 4 _ c4 rfl rfl)) (pa_cons (isi rfl (by decide) (n.g 5 _ c5 rfl rfl)) (pa_cons (isi rfl (by decide) (n.g 6 _ c6 rfl rfl)) (pa_cons (isi rfl (by decide) (n.g 7 _ c7 rfl rfl))
    (pa_cons (isi rfl (by decide) (n.g 8 _ c8 rfl rfl)) (pa_cons (isi rfl (by decide) (n.g 9 _ c9 rfl rfl)) (pa_cons (isi rfl (by decide) (n.g 10 _ c10 rfl rfl))
    (pa_cons (pe_callB (call_isEg hN.e hz hf hmem) rfl n.ii (by decide +kernel) (pa_cons (pv 0) (pa_cons (pe_bltn (v := .ty "ValueError") rfl n.ve (by decide +kernel) rfl) pa_nil))) pa_nil)))))))))))))) (pss_cons (ps_set (i := 2) sc_names.nd rfl (.inl rfl) pe_str) (pss_one (ps_ret (pe_join pe_str
      (pe_lcQ (g := gTup K 2 (gCons (gName 3) (gCons (gName 4) gNil))) (tt := tB (tVar 4)) (te := tVar 3) hC sc_names.nd (pi_zipQ (by rfl) n.zp (pa_cons (pe_split (pv 2) pe_str) (pa_cons (pv 1) pa_nil))) blk_names
        (fun _ _ _ _ _ h => pg_tupQ h (pgs_cons (pg_name (i := 3) sc_names.nd rfl (.inl rfl) (.inr rfl)) (pgs_cons (pg_name (i := 4) sc_names.nd rfl (.inl rfl) (.inr rfl)) pgs_nil)))
        (fun _ _ _ _ _ => pts_one (pt_val (pv 4))) (fun _ _ _ _ _ => pv 3)))))), ?_⟩
  have words : (Txt.split nmLabels nmSep).length = 12 := by decide +kernel
  have total := sum_le (ws := Txt.split nmLabels nmSep) (c := 100) (by decide +kernel)
  rw [words] at total
  refine isi_step (b := b0) rfl (fun _ r => r) (hbk 0 _ _ rfl rfl) (isi_step (b := b1) rfl (fun _ r => r) (hbk 1 _ _ rfl rfl) (isi_step (b := b2) rfl (fun _ r => r) (hbk 2 _ _ rfl rfl) (isi_step (b := b3) rfl (fun _ r => r) (hbk 3 _ _ rfl rfl)
    (isi_step (b := b4) rfl (fun _ r => r) (hbk 4 _ _ rfl rfl) (isi_step (b := b5) rfl (fun _ r => r) (hbk 5 _ _ rfl rfl) (isi_step (b := b6) rfl (fun _ r => r) (hbk 6 _ _ rfl rfl) (isi_step (b := b7) rfl (fun _ r => r) (hbk 7 _ _ rfl rfl)
    (isi_step (b := b8) rfl (fun _ r => r) (hbk 8 _ _ rfl rfl) (isi_step (b := b9) rfl (fun _ r => r) (hbk 9 _ _ rfl rfl) (isi_step (b := b10) rfl (fun _ r => r) (hbk 10 _ _ rfl rfl) (isi_step (b := true) rfl (fun _ r => r) hve ?_)))))))))))
  refine ⟨szl3 (by simp), fun l nl => ?_⟩
  have g1 := g.new (o := .lst ([b0, b1, b2, b3, b4, b5, b6, b7, b8, b9, b10, true].map V.bl)) hG nl
  refine ⟨⟨_, rfl⟩, .str nmLabels, rfl, ⟨_, rfl⟩, nmLabels, nmSep, rfl, rfl, by decide +kernel, szl3 (by decide +kernel), fun q nq => ?_⟩
  refine ⟨.ref l, rfl, q, l, (Txt.split nmLabels nmSep).map V.str, [b0, b1, b2, b3, b4, b5, b6, b7, b8, b9, b10, true].map V.bl, rfl, .inl (.inl upd_same), .inl (.inl ?_), fun D hD => ?_⟩
  · rw [upd_ne (fun z => by rw [z] at nq; rw [← z] at nq; rw [upd_same] at nq; cases nq)]; exact upd_same
  have g2 := g.new (o := .lst ((Txt.split nmLabels nmSep).map V.str)) g1 nq
  refine sel_lc (ws := Txt.split nmLabels nmSep) (bs := [b0, b1, b2, b3, b4, b5, b6, b7, b8, b9, b10, true]) g (by rw [words]; decide) hD (.inl (.inl upd_same)) (.inl (.inl ?_)) g2 (by rw [words]; rfl) rfl fun H3 x3 G3 hL => ?_
  · rw [upd_ne (fun z => by rw [z] at nq; rw [← z] at nq; rw [upd_same] at nq; cases nq)]; exact upd_same
  refine ⟨nmSep, D, _, rfl, rfl, .inl (.inl (.inl hL)), ?_, hQ H3 (fun c o e => x3 c o ?_) G3⟩
  · have s1 := sel_sum (Txt.split nmLabels nmSep) ([b0, b1, b2, b3, b4, b5, b6, b7, b8, b9, b10] ++ [true])
    have s2 := sel_len (Txt.split nmLabels nmSep) ([b0, b1, b2, b3, b4, b5, b6, b7, b8, b9, b10] ++ [true])
    have s3 : nmSep.length = 1 := by decide +kernel
    rw [s3]
    rw [words] at s2
    show ((sel (Txt.split nmLabels nmSep) ([b0, b1, b2, b3, b4, b5, b6, b7, b8, b9, b10] ++ [true])).map (·.length)).sum + (sel (Txt.split nmLabels nmSep) ([b0, b1, b2, b3, b4, b5, b6, b7, b8, b9, b10] ++ [true])).length * 1 ≤ 16777216
    omega
  · have e1 : upd H l (.lst ([b0, b1, b2, b3, b4, b5, b6, b7, b8, b9, b10, true].map V.bl)) c = some o := by
      rw [upd_ne (fun z => by rw [z, nl] at e; cases e)]; exact e
    rw [upd_ne (fun z => by rw [z] at e1; exact nomatch (show none = some o from nq.symm.trans e1))]; exact e1
end
end K
namespace K
open PySem PySem.Spec L2 Fw
/-! ### try: call() / except TallyError as e: return _law_names(e) / return '' -/
def TTerr (K : PySem.W.Frag) (G : Hp → Prop) (Cs : List Addr) (CS : Addr) : (XK → Hp → VK → Prop) → Hp → VK → Prop := fun tl H Q =>
  tl (fun cls d H' => ∃ (D : Addr) (txt : Str), cls = .ref D ∧ d = none ∧ PySem.W.exmOne K cls (.ref CS) = some true ∧ NameOf K Cs D txt ∧ G H' ∧ ∀ H'', Fw.Same H' H'' → G H'' → Q (.str txt) H'') H (fun _ H' => Q (.str "") H')
def N_error : List Str := ["call", "e"]
theorem sc_error : FnScope N_error ["call"] (defScope s__law_error) := ⟨rfl, rfl, rfl, by decide +kernel, rfl, by decide +kernel, by decide +kernel⟩
theorem takes0N {X : Cx} : L2N.Takes X (fun _ _ _ _ => False) := fun _ _ x => by
  obtain ⟨_, _, _, _, _, _, _, _, _, _, _, _, _, _, _, _, z⟩ := x
  exact z.elim
/-- _law_names(e) in the suite -/
def tNm (K : PySem.W.Frag) (G : Hp → Prop) (Cs : List Addr) (a : Addr) (cls : Value) (d : Option Addr) : TE := fun σ H Q => σ[1]? = some (some (.ref a)) ∧ G H ∧ ∃ (D : Addr) (txt : Str), cls = .ref D ∧ d = none ∧ NameOf K Cs D txt ∧ ∀ H', Fw.Same H H' → G H' → Q (.str txt) H'
theorem takes_len {X : Cx} {W : WX} (tk : L2N.Takes X W) : L2N.Takes X (fun cls d σ H => σ.length = X.N.length → W cls d σ H) := fun u s' x => by
  obtain ⟨a, B, sI, pins, σ, H, cls, d, e, I, nb, up, sky, na, os, ag, w⟩ := x
  exact tk u s' ⟨a, B, sI, pins, σ, H, cls, d, e, I, nb, up, sky, na, os, ag, w I.len⟩
section
variable {X : Cx} {G : Hp → Prop} {Cs : List Addr} {CS g fn : Addr} {fdn : FuncData} {k : Nat} {q : Str} {cdg : Value}
theorem err_gives (F : FnHP X.prog X.w X.K X.mg X.base C8.CX0 k fn fdn ["e"] (spNames X.K G Cs)) (hm : X.mg "_law_names" = some (.ref fn)) (hk : PySem.W.keepIn X.K (.ref fn) = true) (hb : Binds X.K fdn ["e"] []) (hT : X.mg "TallyError" = some (.ref CS)) :
    GivesToN k X N_error "_law_error" (defScope s__law_error) g cdg (defBody s__law_error) "call" q (TTerr X.K G Cs CS) := by
  intro f c' s H Q tl hr act hc h
  have suite : ∀ (a : Addr) (oe : Obj) (cls : Value) (d : Option Addr) (pn : List (Addr × Obj)) (p1 p2 p3 : Pos), L2N.Zn cls d oe → (∃ vs, oe.data = .fields vs) →
      PE ((cxOf C8.CX0 X.prog X.w X.K X.mg X.base N_error "_law_error" (defScope s__law_error) g cdg X.A X.stack s H C8.E0).nox.suite a ((a, oe) :: pn)) (.Call (.Name "_law_names" p1) [.Name "e" p2] [] p3) (tNm X.K G Cs a cls d) := fun a oe cls d pn p1 p2 p3 hz hf => by
    obtain ⟨vs, hvs⟩ := id hf
    have hrH : L2H.RoomH k ((cxOf C8.CX0 X.prog X.w X.K X.mg X.base N_error "_law_error" (defScope s__law_error) g cdg X.A X.stack s H C8.E0).nox.suite a ((a, oe) :: pn)).A := ⟨(hr.mono (Nat.le_succ k)).dp, (hr.mono (Nat.le_succ k)).un⟩
    refine pe_imp (pe_callHP (p := (a, oe)) (E := fun _ => C8.E0) F hrH ⟨rfl, vs, hvs, hz.2.2 vs hvs⟩ List.mem_cons_self rfl hm hk hb (fun σ _ _ _ _ _ _ c => False.elim c) (pa_cons (pv 1) pa_nil) (by decide)) fun σ' H' Q' h' => ?_
    obtain ⟨h1, hG, D, txt, rfl, rfl, hN, hq⟩ := h'
    exact ⟨.ref a, h1, rfl, hG, D, txt, ⟨hz.1, hz.2.1⟩, hf, hN, hq⟩
  refine ⟨_, pss_cons (L2N.ps_try_as (X := (cxOf C8.CX0 X.prog X.w X.K X.mg X.base N_error "_law_error" (defScope s__law_error) g cdg X.A X.stack s H C8.E0).nox) (c := .ref CS) (i := 1)
      (tb := fun W D σ H => ∃ Ech : XK, (∀ cls d (σ' : L2.St) H', Ech cls d H' → σ'.length = 2 → W cls d σ' H') ∧ σ[0]? = some (some (.ref f)) ∧ H c' = some (LamX.CodeO c' q) ∧ tl Ech H (fun _ H' => D.nx σ H'))
      (ts := fun a cls d => tRet (tNm X.K G Cs a cls d))
      rfl rfl sc_error.nd rfl rfl ⟨rfl, by decide, .inl hT⟩ takes0N (fun W pn xe tk _ => ?_) (fun a oe cls d pn hz hf => pss_one (ps_ret (suite a oe cls d pn _ _ _ hz hf)))) (pss_one (ps_ret pe_str)), ?_⟩
  · refine ⟨fun pins s' σ H' D I h' => ?_⟩
    obtain ⟨Ech, hW, h1, h2, h3⟩ := h'
    exact (pss_one (ps_expr (act _ pn xe Ech _ _ (takes_len tk) hW) rfl)).run pins s' σ H' D I ⟨h1, h2, h3⟩
  · refine ⟨_, fun cls d σ' H' e hl => ?_, rfl, hc, h⟩
    obtain ⟨D, txt, rfl, rfl, e1, e2, e3, e4⟩ := e
    have h1 : ∀ a : Addr, (σ'.set 1 (some (V.ref a)))[1]? = some (some (V.ref a)) := fun a => by rw [List.getElem?_set_self (by omega)]
    exact ⟨true, e1, fun _ a ha => ⟨h1 a, e3, D, txt, rfl, rfl, e2, e4⟩, fun z => nomatch z⟩
end
end K
namespace K
open PySem PySem.Spec L2 Fw
/-! ### a lambda that is tried: _law_error(lambda: ..) -/
def NmOk (K : PySem.W.Frag) (ec : Nat → Addr) (Cs : List Addr) (CS : Addr) (nm : Nat → Nat → Option D) : Prop :=
  ∀ c d, nm 0 c = some d → c ≠ 11 ∧ ∃ txt, d = .str txt ∧ PySem.W.exmOne K (.ref (ec c)) (.ref CS) = some true ∧ NameOf K Cs (ec c) txt
theorem str_empty : (Str.mk #[]) = ("" : Str) := by decide +kernel
section
variable {P : Program} {w : World} {K : PySem.W.Frag} {mg : Str → Option Value} {base : Heap} {Cs : List Addr} {CS fn g c PT : Addr} {fdn fdg : FuncData} {k : Nat} {T : List (Addr × Str)} {ec : Nat → Addr} {nm : Nat → Nat → Option D} {qual : Str}
set_option maxHeartbeats 1000000
theorem att_err (Fn : Fun K "_law_names" "_law_names" s__law_names fn fdn) (nk : NmK K mg Cs) (hm : mg "_law_names" = some (.ref fn)) (hkn : PySem.W.keepIn K (.ref fn) = true) (hbn : Binds K fdn ["e"] []) (hT : mg "TallyError" = some (.ref CS))
    (Fe : Fun K "_law_error" "_law_error" s__law_error g fdg) (hme : mg "_law_error" = some (.ref g)) (hke : PySem.W.keepIn K (.ref g) = true) (hbe : Binds K fdg ["call"] []) (E : NmOk K ec Cs CS nm) (TB : LamX.TabB base mg c PT) (hmT : (PT, qual ++ "<lambda>") ∈ T) (hu : ∀ p ∈ T, p.1 = PT → p.2 = qual ++ "<lambda>") :
    AttOk P w K mg base (.ref c) qual (k + 1) (LamX.Tabs T) ec nm "_law_error" 0 := by
  intro X hP hw hK hmg hba hcd hq hr A W body scope p lpos pos f hg L hbody
  subst hP hw hK hmg hba hq
  obtain ⟨oc, od, kV, doc, pm, an, cdv, ct, osl, rfl, lk, hcg⟩ := Fe.ex
  have gok := gok_tabs T
  have FN := names_ok (P := X.prog) (w := X.w) (base := X.base) (k := k) gok Fn nk
  have GT := err_gives (X := X) (g := g) (q := X.env.qual ++ "<lambda>") (cdg := cdv) FN hm hkn hbn hT
  refine pe_imp (pe_lamcallN (t := fun E => tE X.K ⟨A, LamX.Tabs T, ec⟩ (fun cls d _ H => E cls d H) f) hg hme hke lk hcg hbe sc_error rfl (.inl rfl) GT TB hcd hmT hu hr L rfl (fun _ _ _ _ _ => rfl) hbody) fun σ H Q ⟨e, R, h⟩ => ?_
  refine ⟨R.g, fun H1 eN T1 => ?_⟩
  have s1 : Step X.K ⟨A, LamX.Tabs T, ec⟩ σ H e σ H1 e := Step.extN R eN T1
  refine ⟨e, s1.rel, ?_⟩
  unfold dAtt at h
  cases q : f e with
  | bad => rw [q] at h; exact h.elim
  | ok r e1 =>
    rw [q] at h
    cases r with
    | slot i => exact h.elim
    | imm d =>
      dsimp only at h
      rw [if_pos rfl] at h
      intro v H' s2 _
      have := h (.str "") H' (s1.trans s2) (by rw [str_empty]; exact .str _)
      exact this
  | exc cc e1 =>
    rw [q] at h
    obtain ⟨d, hd, h⟩ := sat_okD h
    obtain ⟨n11, txt, rfl, x1, x2⟩ := E cc d hd
    intro od' H' hdx s2
    refine ⟨ec cc, txt, rfl, hdx n11, x1, x2, s2.rel.g, fun H'' sm g2 => ?_⟩
    exact h (.str txt) H'' ((s1.trans s2).trans (.same s2.rel sm g2)) (.str _)
end
end K
set_option maxHeartbeats 0
namespace K
open PySem PySem.Spec L2 Fw
abbrev R : PySem.W.OpenRow := PySem.W.OpenLaw.row PySem.Challenge.rw_anytallies_k02_whole_what_is_shown
def dfs : List (Str × Stmt) := ([("is_whole", s_is_whole), ("is_slip", s_is_slip), ("is_hand", s_is_hand), ("is_counter", s_is_counter), ("slips_of", s_slips_of), ("counters_of", s_counters_of), ("is_board", s_is_board), ("need_board", s_need_board), ("is_fact", s_is_fact), ("are_facts", s_are_facts), ("need_facts", s_need_facts), ("settled", s_settled), ("handed", s_handed), ("need_numbers", s_need_numbers), ("led", s_led), ("rows_of", s_rows_of), ("shown", s_shown), ("caught", s_caught), ("off", s_off), ("is_so", s_is_so)] : List (Str × Stmt)) ++ ([("keeps", s_keeps), ("_law_vat", s__law_vat), ("_law_under", s__law_under), ("_law_some", s__law_some), ("_law_truly", s__law_truly), ("_law_slip", s__law_slip), ("_law_hand", s__law_hand), ("_law_counter", s__law_counter), ("_law_inner", s__law_inner), ("_law_board", s__law_board), ("_law_slips", s__law_slips), ("_law_counters", s__law_counters), ("_law_settled", s__law_settled), ("_law_handed", s__law_handed), ("_law_led", s__law_led), ("_law_rows", s__law_rows), ("_law_so", s__law_so), ("_law_fact", s__law_fact), ("_law_facts", s__law_facts), ("_law_numbers", s__law_numbers)] : List (Str × Stmt)) ++ ([("_law_names", s__law_names), ("_law_error", s__law_error), ("_law_known", s__law_known), ("_law_refused", s__law_refused), ("_law_written", s__law_written), ("law", s_law)] : List (Str × Stmt))
def dd (p : Str × Stmt) : He.DefD := ⟨(p.1, none), p.1, p.1, defArgs p.2, defBody p.2, defScope p.2, [], []⟩
def fn : List He.DefD := dfs.map dd
def excNm : List Str := ["TallyError", "InvalidBoard", "InvalidNumbers", "InvalidFacts", "InvalidIndex", "InvalidNumber", "InvalidOrder", "InvalidText", "Impossible", "Unlike", "NothingToUndo", "TooMany"]
def ecK (K : PySem.W.Frag) (c : Nat) : Addr := He.ga K (excNm.getD c "")
def glos : List Str := (["is_whole", "is_slip", "is_hand", "is_counter", "slips_of", "counters_of", "is_board", "need_board", "is_fact", "are_facts", "need_facts", "settled", "handed", "need_numbers", "led", "rows_of", "shown", "caught", "off", "is_so", "keeps", "_law_vat", "_law_under", "_law_some", "_law_truly", "_law_slip", "_law_hand", "_law_counter", "_law_inner", "_law_board"] : List Str) ++ (["_law_slips", "_law_counters", "_law_settled", "_law_handed", "_law_led", "_law_rows", "_law_so", "_law_fact", "_law_facts", "_law_numbers", "_law_names", "_law_error", "_law_known", "_law_refused", "_law_written", "law", "TallyError", "InvalidBoard", "InvalidNumbers", "InvalidFacts", "InvalidIndex", "InvalidNumber", "InvalidOrder", "InvalidText", "Impossible", "Unlike", "NothingToUndo", "TooMany"] : List Str)
def frees : List Str := (["len", "abs", "int", "max", "min", "all", "any", "list", "tuple", "range", "enumerate", "zip", "isinstance", "str", "bool", "sum", "sorted", "set", "dict", "ValueError"] : List Str)
def csts : List (Str × Int) := [("FARTHEST", 20), ("END", 99), ("MOST_PARTS", 4), ("MOST_SLIPS", 8), ("MOST_COUNTERS", 6), ("DEEPEST", 2), ("MOST_FACTS", 6), ("WIDEST", 999)]
def excs : List Str := (["TallyError", "InvalidBoard", "InvalidNumbers", "InvalidFacts", "InvalidIndex", "InvalidNumber", "InvalidOrder", "InvalidText", "Impossible", "Unlike", "NothingToUndo"] : List Str)
def fa : List He.Fa := glos.map .glo ++ (frees.map .free ++ (csts.map (fun p => .int p.1 p.2) ++ excs.map .exc))
/-- the errors that a tried call may meet -/
def errs : List Nat := [1, 2, 3]
def bsOf (c : Nat) : List Bool := clsNames.map fun x => x == excNm.getD c ""
def exB (K : PySem.W.Frag) (D : Addr) : Bool := decide (PySem.W.findIn K (.ref D) "__getattribute__" = some (some (.builtin "BaseException.__getattribute__"))) && (decide (PySem.W.findIn K (.ref D) "__getattr__" = some none) && (decide (PySem.W.subIn K (.ref D) (.type "BaseException") = some true) && (PySem.W.hasDictIn K D &&
  (decide (PySem.W.findIn K (.ref D) "__class__" = some (some (.builtin "object.__class__"))) && (decide (PySem.W.specialIn K (.builtin "object.__class__") "__get__" = some (some (.builtin "getset_descriptor.__get__"))) && (decide (PySem.W.takesIn K (.builtin "object.__class__") = some true) && decide (PySem.W.mroIn K D (.type "object") = some true)))))))
theorem exB_ok {K : PySem.W.Frag} {D : Addr} (h : exB K D = true) : ExcC K D := by
  obtain ⟨h1, h⟩ := and2 h
  obtain ⟨h2, h⟩ := and2 h
  obtain ⟨h3, h⟩ := and2 h
  obtain ⟨h4, h⟩ := and2 h
  obtain ⟨h5, h⟩ := and2 h
  obtain ⟨h6, h⟩ := and2 h
  obtain ⟨h7, h8⟩ := and2 h
  exact ⟨of_decide_eq_true h1, of_decide_eq_true h2, of_decide_eq_true h3, h4, of_decide_eq_true h5, of_decide_eq_true h6, of_decide_eq_true h7, of_decide_eq_true h8⟩
def CsK (K : PySem.W.Frag) : List Addr := clsNames.map (He.ga K)
def nmB (K : PySem.W.Frag) (D : Addr) (bs : List Bool) : Bool := ((CsK K).zip bs).all (fun p => decide (PySem.W.kitOne K (.ref D) (.ref p.1) = some p.2)) && decide (PySem.W.kitOne K (.ref D) (.type "ValueError") = some true)
def ex (K : PySem.W.Frag) : Bool := errs.all fun c => exB K (ecK K c) && (nmB K (ecK K c) (bsOf c) && decide (PySem.W.exmOne K (.ref (ecK K c)) (.ref (He.ga K "TallyError")) = some true))
def nmL (m c : Nat) : Option D := if m = 0 then (if errs.contains c = true then some (.str (Txt.join nmSep (sel (Txt.split nmLabels nmSep) (bsOf c ++ [true])))) else none) else none
theorem nm_ok {K : PySem.W.Frag} (h : ex K = true) : NmOk K (ecK K) (CsK K) (He.ga K "TallyError") nmL := fun c d hd => by
  unfold nmL at hd
  rw [if_pos rfl] at hd
  split at hd
  · rename_i hc
    cases hd
    have hm : c ∈ errs := by simpa using hc
    obtain ⟨h1, h2⟩ := and2 (List.all_eq_true.mp h c hm)
    obtain ⟨h2, h3⟩ := and2 h2
    obtain ⟨h2, h4⟩ := and2 h2
    have n11 : c ≠ 11 := fun z => by
      have : ∀ c ∈ errs, c ≠ 11 := by decide
      exact this c hm z
    refine ⟨n11, _, rfl, of_decide_eq_true h3, ⟨exB_ok h1, bsOf c, by simp [bsOf, clsNames], fun i cc b hc hb => ?_, of_decide_eq_true h4, rfl⟩⟩
    have hz : ((CsK K).zip (bsOf c))[i]? = some (cc, b) := List.getElem?_zip_eq_some.mpr ⟨hc, hb⟩
    exact of_decide_eq_true (List.all_eq_true.mp h2 _ (List.mem_of_getElem? hz))
  · cases hd
theorem nm_1 : nmL 0 1 = some (.str z_board_value) := congrArg (fun s => some (PyData.str s)) (show Txt.join nmSep (sel (Txt.split nmLabels nmSep) (bsOf 1 ++ [true])) = z_board_value from by decide +kernel)
theorem nm_2 : nmL 0 2 = some (.str z_numbers_value) := congrArg (fun s => some (PyData.str s)) (show Txt.join nmSep (sel (Txt.split nmLabels nmSep) (bsOf 2 ++ [true])) = z_numbers_value from by decide +kernel)
theorem nm_3 : nmL 0 3 = some (.str z_facts_value) := congrArg (fun s => some (PyData.str s)) (show Txt.join nmSep (sel (Txt.split nmLabels nmSep) (bsOf 3 ++ [true])) = z_facts_value from by decide +kernel)
def tf : List He.Defn := [("_law_refused", none)]
abbrev hkX : PySem.W.Hook := He.hookX 5 fa fn [] tf ex
def ob (s : PySem.W.SharedT) : He.AlX := He.obsX 5 fa fn [] tf ex (HandSHeadRun.getT s)
theorem ob_eq (s : PySem.W.SharedT) : ob s = hkX.obs s.abs := He.obsX_eq (HandSHeadRun.getT_eq s)
def loose : List Str := (["TallyError", "InvalidBoard", "InvalidNumbers", "InvalidFacts", "InvalidIndex", "InvalidNumber", "InvalidOrder", "InvalidText", "Impossible", "Unlike", "NothingToUndo", "TooMany", "FARTHEST", "END", "MOST_PARTS", "MOST_SLIPS", "MOST_COUNTERS", "DEEPEST", "MOST_FACTS", "WIDEST", "is_whole", "is_slip", "is_hand", "is_counter", "slips_of", "counters_of", "is_board", "need_board", "is_fact", "are_facts"] : List Str) ++ (["need_facts", "settled", "handed", "need_numbers", "led", "rows_of", "shown", "caught", "off", "is_so", "keeps", "_law_vat", "_law_under", "_law_some", "_law_truly", "_law_slip", "_law_hand", "_law_counter", "_law_inner", "_law_board", "_law_slips", "_law_counters", "_law_settled", "_law_handed", "_law_led", "_law_rows", "_law_so", "_law_fact", "_law_facts", "_law_numbers"] : List Str) ++ (["_law_names", "_law_error", "_law_known", "_law_refused", "_law_written"] : List Str)
theorem run (w : World) : HandSHeadRun.RunEq R (PySem.W.view R.prog [69]) hkX ob 20000 loose w := by
  intro os
  kernel_rfl
end K
namespace K
open PySem PySem.Spec L2 Fw
variable {Φ : FEnv}
def isWhole (d : D) (lo hi : Int) : Bool := match d with
  | .int i => decide (lo ≤ i) && decide (i ≤ hi)
  | _ => false
@[simp] def f_is_whole : List D → Option Res
  | [v, .int lo, .int hi] => some (.ok (.bool (isWhole v lo hi)))
  | _ => none
theorem ok_is_whole : ∀ args, fnP f_is_whole args ≠ .bad → ∃ j, funOf 3 3 (denSs Φ j ir_is_whole) args = fnP f_is_whole args := fnP_ok fun ds r h => by
  unfold f_is_whole at h
  split at h
  · rename_i v lo hi
    cases h
    refine ⟨rfl, 0, ?_⟩
    cases v <;> simp [ir_is_whole, isT, isWhole, gCmp, leD]
    · rename_i i
      by_cases h1 : lo ≤ i <;> simp [h1]
  · cases h
end K
namespace K
open PySem PySem.Spec L2 Fw
variable {Φ : FEnv}
abbrev Fn (Φ : FEnv) (i : Nat) (f : List D → Option Res) : Prop := Φ.fn i = fnP f
def isSlip : D → Bool
  | .tuple [a, b] => isWhole a (-20) 20 && (match a with
    | .int i => isWhole b i 20
    | _ => false)
  | _ => false
@[simp] def f_is_slip : List D → Option Res
  | [v] => some (.ok (.bool (isSlip v)))
  | _ => none
theorem ok_is_slip (h0 : Fn Φ 0 f_is_whole) : ∀ args, fnP f_is_slip args ≠ .bad → ∃ j, funOf 1 1 (denSs Φ j ir_is_slip) args = fnP f_is_slip args := fnP_ok fun ds r h => by
  unfold f_is_slip at h
  split at h
  · rename_i v
    cases h
    refine ⟨rfl, 0, ?_⟩
    cases v <;> simp [ir_is_slip, isSlip]
    rename_i xs
    match xs with
    | [] => simp
    | [a] => simp
    | a :: b :: c :: l =>
      have : ¬ ((l.length : Int) + 1 + 1 + 1 = 2) := by omega
      simp [this]
    | [a, b] =>
      simp [h0, f_is_whole]
      cases hw : isWhole a (-20) 20 <;> simp
      cases a <;> simp [isWhole, h0, f_is_whole] at hw ⊢
  · cases h
def isHand : D → Bool
  | .tuple [] => true
  | .tuple [.str s, d] => anyEq [.str z_down, .str z_near] (.str s) && isWhole d 2 10
  | _ => false
@[simp] def f_is_hand : List D → Option Res
  | [v] => if v.canLay0 = true then some (.ok (.bool (isHand v))) else none
  | _ => none
theorem ok_is_hand (h0 : Fn Φ 0 f_is_whole) : ∀ args, fnP f_is_hand args ≠ .bad → ∃ j, funOf 1 1 (denSs Φ j ir_is_hand) args = fnP f_is_hand args := fnP_ok fun ds r h => by
  unfold f_is_hand at h
  split at h
  · rename_i v
    split at h
    · rename_i hv
      cases h
      refine ⟨rfl, 0, ?_⟩
      cases v <;> (try simp at hv) <;> simp [ir_is_hand, isHand, eqD, okPair, hv, PyData.eqv]
      rename_i xs
      match xs with
      | [] => simp [PyData.eqvAll]
      | [a] => simp [PyData.eqvAll]
      | a :: b :: c :: l =>
        have : ¬ ((l.length : Int) + 1 + 1 + 1 = 2) := by omega
        simp [PyData.eqvAll, this]
      | [a, b] =>
        cases a <;> (try simp at hv) <;> simp [h0, f_is_whole, PyData.eqvAll, okPair, hv]
        rename_i s
        cases anyEq [.str z_down, .str z_near] (.str s) <;> simp
    · cases h
  · cases h
def pyMax (a b : Int) : Int := if b > a then b else a
def ctr (sub : D → Bool) : D → Bool
  | .tuple [.str k, lo, hi, hand, parts] => anyEq [.str z_stops, .str z_turns] (.str k) && isWhole lo (-99) 0 && (match lo with
    | .int l => isWhole hi (pyMax 0 (l + 1)) 99
    | _ => false) && isHand hand && (match parts with
    | .tuple ps => decide (1 ≤ (ps.length : Int)) && decide ((ps.length : Int) ≤ 4) && ps.all (fun p => isSlip p || sub p)
    | _ => false)
  | _ => false
def isCounter : Nat → D → Bool
  | 0 => ctr fun _ => false
  | n + 1 => ctr (isCounter n)
def subC (n : Nat) (d : D) : Bool := decide (0 < n) && isCounter (n - 1) d
theorem isCounter_eq (n : Nat) : isCounter n = ctr (subC n) := by
  cases n with
  | zero => rw [isCounter]; rfl
  | succ n => rw [isCounter]; exact congrArg ctr (funext fun d => by simp [subC])
/-- j: as deep as it is told here -/
@[simp] def f_is_counter (j : Nat) : List D → Option Res
  | [v, .int k] => if 0 ≤ k ∧ k < j ∧ v.canLay0 = true then some (.ok (.bool (isCounter k.toNat v))) else none
  | _ => none
theorem ok_is_counter {j : Nat} (h0 : Fn Φ 0 f_is_whole) (h1 : Fn Φ 1 f_is_slip) (h2 : Fn Φ 2 f_is_hand) (h3 : Fn Φ 3 (f_is_counter j)) : ∀ args, fnP (f_is_counter (j + 1)) args ≠ .bad → ∃ n, funOf 8 2 (denSs Φ n ir_is_counter) args = fnP (f_is_counter (j + 1)) args := fnP_ok fun ds r h => by
  unfold f_is_counter at h
  split at h
  · rename_i v k
    split at h
    · rename_i hv
      obtain ⟨hk0, hkj, hv⟩ := hv
      cases h
      refine ⟨rfl, 0, ?_⟩
      rw [isCounter_eq]
      obtain ⟨n, rfl⟩ := Int.eq_ofNat_of_zero_le hk0
      rw [Int.toNat_natCast]
      cases v <;> (try simp at hv) <;> simp [ir_is_counter, ctr]
      rename_i xs
      by_cases hl : xs.length = 5
      · obtain ⟨kind, lo, hi, hand, parts, rfl⟩ := len5 hl
        simp at hv
        obtain ⟨hv1, hv2, hv3, hv4, hv5⟩ := hv
        cases kind <;> simp [ctr]
        rename_i ks
        simp [okPair, hv1, h0, f_is_whole, h2, f_is_hand, hv4, -Bool.not_or]
        cases hks : anyEq [.str z_stops, .str z_turns] (.str ks)
        · simp
        simp
        cases hlo : isWhole lo (-99) 0
        · simp
        simp
        cases lo <;> simp [isWhole] at hlo
        rename_i l
        simp [maxD, h0, f_is_whole, pyMax]
        generalize hhi : isWhole hi _ 99 = th
        cases th
        · simp
        simp [*]
        cases hha : isHand hand
        · simp [*]
        simp [*]
        cases parts <;> (try simp at hv5) <;> simp [*]
        rename_i ps
        cases h1l : decide (1 ≤ (ps.length : Int)) <;> simp [*]
        cases h4l : decide ((ps.length : Int) ≤ 4) <;> simp [*]
        have hps : ps.length ≤ 4 := by simp at h4l; omega
        rw [dComp_map (ds := ps) (g := fun p => .bool (isSlip p || subC n p))]
        case hi => rfl
        · simp [*]
        · rfl
        · exact szl (by omega)
        · intro d hd
          have hcd := clAll_mem hv5 hd
          simp [*, wipeE]
          cases hs : isSlip d <;> simp [subC]
          cases n with
          | zero => simp
          | succ n =>
            have : (n : Int) < j := by omega
            have z : (1 : Int) ≤ n + 1 := by omega
            simp [*]
        · rfl
      · have h5 : ¬ ((xs.length : Int) = 5) := by omega
        simp [h5]
        split
        · rename_i h; cases h; exact absurd rfl hl
        · rfl
    · cases h
  · cases h
end K
namespace K
open PySem PySem.Spec L2 Fw
variable {Φ : FEnv}
/-! ### the slips and the counters of a part -/
def okPart : Nat → D → Bool
  | 0, _ => false
  | j + 1, .tuple [a, b] => true
  | j + 1, .tuple [_, _, _, _, .tuple ps] => decide (ps.length ≤ 4) && ps.all (okPart j)
  | _ + 1, _ => false
def slipsN : Nat → D → List D
  | 0, _ => []
  | j + 1, .tuple [a, b] => [.tuple [a, b]]
  | j + 1, .tuple [_, _, _, _, .tuple ps] => ps.flatMap (slipsN j)
  | _ + 1, _ => []
def ctrsN : Nat → D → List D
  | 0, _ => []
  | j + 1, .tuple [a, b] => []
  | j + 1, .tuple [a, b, c, d, .tuple ps] => .tuple [a, b, c, d, .tuple ps] :: ps.flatMap (ctrsN j)
  | _ + 1, _ => []
theorem flat_le {f : D → List D} {c : Nat} : ∀ {ps : List D}, (∀ p ∈ ps, (f p).length ≤ c) → (ps.flatMap f).length ≤ ps.length * c
  | [], _ => by simp
  | p :: ps, h => by
    rw [List.flatMap_cons, List.length_append, List.length_cons, Nat.succ_mul]
    have h1 := h p (by simp)
    have h2 := flat_le (ps := ps) fun q hq => h q (by simp [hq])
    omega
theorem okPart_cases {j : Nat} {p : D} (h : okPart (j + 1) p = true) : (∃ a b, p = .tuple [a, b]) ∨ ∃ a b c d ps, p = .tuple [a, b, c, d, .tuple ps] ∧ ps.length ≤ 4 ∧ ∀ q ∈ ps, okPart j q = true := by
  unfold okPart at h
  split at h
  · rename_i h2; cases h2
  · exact .inl ⟨_, _, rfl⟩
  · rename_i h2
    cases h2
    have h := and2 h
    exact .inr ⟨_, _, _, _, _, rfl, of_decide_eq_true h.1, fun q hq => List.all_eq_true.mp h.2 q hq⟩
  · cases h
theorem slips_le : ∀ {j : Nat} {p : D}, okPart j p = true → (slipsN j p).length ≤ 4 ^ j
  | 0, _, h => by cases h
  | j + 1, p, h => by
    rcases okPart_cases h with ⟨a, b, rfl⟩ | ⟨a, b, c, d, ps, rfl, hl, ha⟩
    · show 1 ≤ _
      exact Nat.pow_pos (by decide)
    · show (ps.flatMap (slipsN j)).length ≤ _
      have h1 := flat_le (ps := ps) (f := slipsN j) (c := 4 ^ j) fun q hq => slips_le (ha q hq)
      have h2 : ps.length * 4 ^ j ≤ 4 * 4 ^ j := Nat.mul_le_mul_right _ hl
      rw [Nat.pow_succ]; omega
theorem ctrs_le : ∀ {j : Nat} {p : D}, okPart j p = true → (ctrsN j p).length ≤ 5 ^ j
  | 0, _, h => by cases h
  | j + 1, p, h => by
    rcases okPart_cases h with ⟨a, b, rfl⟩ | ⟨a, b, c, d, ps, rfl, hl, ha⟩
    · exact Nat.zero_le _
    · show (_ :: ps.flatMap (ctrsN j)).length ≤ _
      have h1 := flat_le (ps := ps) (f := ctrsN j) (c := 5 ^ j) fun q hq => ctrs_le (ha q hq)
      have h2 : ps.length * 5 ^ j ≤ 4 * 5 ^ j := Nat.mul_le_mul_right _ hl
      have h3 : 1 ≤ 5 ^ j := Nat.pow_pos (by decide)
      rw [Nat.pow_succ, List.length_cons]; omega
theorem small5 {j : Nat} (h : j ≤ 5) : 5 ^ j ≤ 3125 := Nat.pow_le_pow_right (by decide) h
theorem small4 {j : Nat} (h : j ≤ 5) : 4 ^ j ≤ 1024 := Nat.pow_le_pow_right (by decide) h
theorem szl2 {n : Nat} (h : n ≤ 100000) : n ≤ sizeLine := Nat.le_trans h (by decide)
@[simp] def f_slips_of (j : Nat) : List D → Option Res
  | [p] => if okPart j p = true ∧ j ≤ 5 then some (.ok (.tuple (slipsN j p))) else none
  | _ => none
theorem ok_slips_of {j : Nat} (h4 : Fn Φ 4 (f_slips_of j)) : ∀ args, fnP (f_slips_of (j + 1)) args ≠ .bad → ∃ n, funOf 3 1 (denSs Φ n ir_slips_of) args = fnP (f_slips_of (j + 1)) args := fnP_ok fun ds r h => by
  unfold f_slips_of at h
  split at h
  · rename_i p
    split at h
    · rename_i hp
      obtain ⟨hp, hj⟩ := hp
      cases h
      refine ⟨rfl, 0, ?_⟩
      rcases okPart_cases hp with ⟨a, b, rfl⟩ | ⟨a, b, c, d5, ps, rfl, hl, ha⟩
      · simp [ir_slips_of, slipsN]
      · simp [ir_slips_of, slipsN]
        have key := forL_foldP (E := fun (s : List D × Option D) => [some (SV.d (.tuple [a, b, c, d5, .tuple ps])), some (SV.d (.tuple s.1)), s.2.map SV.d]) (g := fun s d => (s.1 ++ slipsN j d, some d))
          (P := fun s ds => s.1.length + ds.length * 4 ^ j ≤ 90000 ∧ (∀ q ∈ ds, okPart j q = true)) (b := setD 2) (f := denSs Φ 0 [IS.asg (Tgt.name 1) (IE.bin Operator.Add (IE.var 1) (IE.call 4 1 [IE.var 2]))]) (ds := ps) (s := ([], none)) (fun s d ds hP => ?_) ?_
        · dsimp only [Option.map_none] at key
          rw [key]
          obtain ⟨o, ho⟩ := fold_app (slipsN j) ps [] none
          rw [ho]
          simp
        · obtain ⟨s, o⟩ := s
          obtain ⟨h1, h2⟩ := hP
          have hd := h2 d (by simp)
          have hs := slips_le hd
          simp only [List.length_cons, Nat.succ_mul] at h1
          have hz : s.length + (slipsN j d).length ≤ sizeLine := szl2 (by omega)
          have hj5 : j ≤ 5 := by omega
          refine ⟨[some (SV.d (.tuple [a, b, c, d5, .tuple ps])), some (SV.d (.tuple s)), some (SV.d d)], by cases o <;> rfl, ?_, ?_, fun q hq => h2 q (by simp [hq])⟩
          · simp [*]
          · simp; omega
        · refine ⟨?_, ha⟩
          have := small4 (j := j) (by omega)
          have h2 : ps.length * 4 ^ j ≤ 4 * 4 ^ j := Nat.mul_le_mul_right _ hl
          simp; omega
    · cases h
  · cases h
@[simp] def f_counters_of (j : Nat) : List D → Option Res
  | [p] => if okPart j p = true ∧ j ≤ 5 then some (.ok (.tuple (ctrsN j p))) else none
  | _ => none
theorem ok_counters_of {j : Nat} (h4 : Fn Φ 5 (f_counters_of j)) : ∀ args, fnP (f_counters_of (j + 1)) args ≠ .bad → ∃ n, funOf 3 1 (denSs Φ n ir_counters_of) args = fnP (f_counters_of (j + 1)) args := fnP_ok fun ds r h => by
  unfold f_counters_of at h
  split at h
  · rename_i p
    split at h
    · rename_i hp
      obtain ⟨hp, hj⟩ := hp
      cases h
      refine ⟨rfl, 0, ?_⟩
      rcases okPart_cases hp with ⟨a, b, rfl⟩ | ⟨a, b, c, d5, ps, rfl, hl, ha⟩
      · simp [ir_counters_of, ctrsN]
      · simp [ir_counters_of, ctrsN]
        have key := forL_foldP (E := fun (s : List D × Option D) => [some (SV.d (.tuple [a, b, c, d5, .tuple ps])), some (SV.d (.tuple s.1)), s.2.map SV.d]) (g := fun s d => (s.1 ++ ctrsN j d, some d))
          (P := fun s ds => s.1.length + ds.length * 5 ^ j ≤ 90000 ∧ (∀ q ∈ ds, okPart j q = true)) (b := setD 2) (f := denSs Φ 0 [IS.asg (Tgt.name 1) (IE.bin Operator.Add (IE.var 1) (IE.call 5 1 [IE.var 2]))]) (ds := ps) (s := ([.tuple [a, b, c, d5, .tuple ps]], none)) (fun s d ds hP => ?_) ?_
        · dsimp only [Option.map_none] at key
          rw [key]
          obtain ⟨o, ho⟩ := fold_app (ctrsN j) ps [.tuple [a, b, c, d5, .tuple ps]] none
          rw [ho]
          simp
        · obtain ⟨s, o⟩ := s
          obtain ⟨h1, h2⟩ := hP
          have hd := h2 d (by simp)
          have hs := ctrs_le hd
          simp only [List.length_cons, Nat.succ_mul] at h1
          have hz : s.length + (ctrsN j d).length ≤ sizeLine := szl2 (by omega)
          have hj5 : j ≤ 5 := by omega
          refine ⟨[some (SV.d (.tuple [a, b, c, d5, .tuple ps])), some (SV.d (.tuple s)), some (SV.d d)], by cases o <;> rfl, ?_, ?_, fun q hq => h2 q (by simp [hq])⟩
          · simp [*]
          · simp; omega
        · refine ⟨?_, ha⟩
          have := small5 (j := j) (by omega)
          have h2 : ps.length * 5 ^ j ≤ 4 * 5 ^ j := Nat.mul_le_mul_right _ hl
          simp; omega
    · cases h
  · cases h
@[simp] def f__law_slips (j : Nat) : List D → Option Res
  | [p] => if okPart j p = true ∧ j ≤ 5 then some (.ok (.list (slipsN j p))) else none
  | _ => none
theorem ok__law_slips {j : Nat} (h4 : Fn Φ 22 (f__law_slips j)) : ∀ args, fnP (f__law_slips (j + 1)) args ≠ .bad → ∃ n, funOf 3 1 (denSs Φ n ir__law_slips) args = fnP (f__law_slips (j + 1)) args := fnP_ok fun ds r h => by
  unfold f__law_slips at h
  split at h
  · rename_i p
    split at h
    · rename_i hp
      obtain ⟨hp, hj⟩ := hp
      cases h
      refine ⟨rfl, 0, ?_⟩
      rcases okPart_cases hp with ⟨a, b, rfl⟩ | ⟨a, b, c, d5, ps, rfl, hl, ha⟩
      · simp [ir__law_slips, slipsN]
      · simp [ir__law_slips, slipsN]
        have key := forL_foldP (E := fun (s : List D × Option D) => [some (SV.d (.tuple [a, b, c, d5, .tuple ps])), some (SV.d (.list s.1)), s.2.map SV.d]) (g := fun s d => (s.1 ++ slipsN j d, some d))
          (P := fun s ds => s.1.length + ds.length * 4 ^ j ≤ 90000 ∧ (∀ q ∈ ds, okPart j q = true)) (b := setD 2) (f := denSs Φ 0 [IS.asg (Tgt.name 1) (IE.bin Operator.Add (IE.var 1) (IE.call 22 1 [IE.var 2]))]) (ds := ps) (s := ([], none)) (fun s d ds hP => ?_) ?_
        · dsimp only [Option.map_none] at key
          rw [key]
          obtain ⟨o, ho⟩ := fold_app (slipsN j) ps [] none
          rw [ho]
          simp
        · obtain ⟨s, o⟩ := s
          obtain ⟨h1, h2⟩ := hP
          have hd := h2 d (by simp)
          have hs := slips_le hd
          simp only [List.length_cons, Nat.succ_mul] at h1
          have hz : s.length + (slipsN j d).length ≤ sizeLine := szl2 (by omega)
          have hj5 : j ≤ 5 := by omega
          refine ⟨[some (SV.d (.tuple [a, b, c, d5, .tuple ps])), some (SV.d (.list s)), some (SV.d d)], by cases o <;> rfl, ?_, ?_, fun q hq => h2 q (by simp [hq])⟩
          · simp [*]
          · simp; omega
        · refine ⟨?_, ha⟩
          have := small4 (j := j) (by omega)
          have h2 : ps.length * 4 ^ j ≤ 4 * 4 ^ j := Nat.mul_le_mul_right _ hl
          simp; omega
    · cases h
  · cases h
@[simp] def f__law_counters (j : Nat) : List D → Option Res
  | [p] => if okPart j p = true ∧ j ≤ 5 then some (.ok (.list (ctrsN j p))) else none
  | _ => none
theorem ok__law_counters {j : Nat} (h4 : Fn Φ 23 (f__law_counters j)) : ∀ args, fnP (f__law_counters (j + 1)) args ≠ .bad → ∃ n, funOf 3 1 (denSs Φ n ir__law_counters) args = fnP (f__law_counters (j + 1)) args := fnP_ok fun ds r h => by
  unfold f__law_counters at h
  split at h
  · rename_i p
    split at h
    · rename_i hp
      obtain ⟨hp, hj⟩ := hp
      cases h
      refine ⟨rfl, 0, ?_⟩
      rcases okPart_cases hp with ⟨a, b, rfl⟩ | ⟨a, b, c, d5, ps, rfl, hl, ha⟩
      · simp [ir__law_counters, ctrsN]
      · simp [ir__law_counters, ctrsN]
        have key := forL_foldP (E := fun (s : List D × Option D) => [some (SV.d (.tuple [a, b, c, d5, .tuple ps])), some (SV.d (.list s.1)), s.2.map SV.d]) (g := fun s d => (s.1 ++ ctrsN j d, some d))
          (P := fun s ds => s.1.length + ds.length * 5 ^ j ≤ 90000 ∧ (∀ q ∈ ds, okPart j q = true)) (b := setD 2) (f := denSs Φ 0 [IS.asg (Tgt.name 1) (IE.bin Operator.Add (IE.var 1) (IE.call 23 1 [IE.var 2]))]) (ds := ps) (s := ([.tuple [a, b, c, d5, .tuple ps]], none)) (fun s d ds hP => ?_) ?_
        · dsimp only [Option.map_none] at key
          rw [key]
          obtain ⟨o, ho⟩ := fold_app (ctrsN j) ps [.tuple [a, b, c, d5, .tuple ps]] none
          rw [ho]
          simp
        · obtain ⟨s, o⟩ := s
          obtain ⟨h1, h2⟩ := hP
          have hd := h2 d (by simp)
          have hs := ctrs_le hd
          simp only [List.length_cons, Nat.succ_mul] at h1
          have hz : s.length + (ctrsN j d).length ≤ sizeLine := szl2 (by omega)
          have hj5 : j ≤ 5 := by omega
          refine ⟨[some (SV.d (.tuple [a, b, c, d5, .tuple ps])), some (SV.d (.list s)), some (SV.d d)], by cases o <;> rfl, ?_, ?_, fun q hq => h2 q (by simp [hq])⟩
          · simp [*]
          · simp; omega
        · refine ⟨?_, ha⟩
          have := small5 (j := j) (by omega)
          have h2 : ps.length * 5 ^ j ≤ 4 * 5 ^ j := Nat.mul_le_mul_right _ hl
          simp; omega
    · cases h
  · cases h
end K
namespace K
open PySem PySem.Spec L2 Fw
variable {Φ : FEnv}
theorem isSlip_shape {p : D} (h : isSlip p = true) : ∃ a b : Int, p = .tuple [.int a, .int b] ∧ -20 ≤ a ∧ a ≤ b ∧ b ≤ 20 := by
  unfold isSlip at h
  split at h
  · rename_i a b
    have h := and2 h
    cases a <;> simp [isWhole] at h
    cases b <;> simp [isWhole] at h
    exact ⟨_, _, rfl, h.1.1, h.2.1, h.2.2⟩
  · cases h
theorem isSlip_ok {p : D} (h : isSlip p = true) (j : Nat) : okPart (j + 1) p = true := by
  obtain ⟨a, b, rfl, _⟩ := isSlip_shape h
  rfl
structure CtrShape (sub : D → Bool) (p : D) (k : Str) (lo hi : Int) (hand : D) (ps : List D) : Prop where
  eq : p = .tuple [.str k, .int lo, .int hi, hand, .tuple ps]
  kk : anyEq [.str z_stops, .str z_turns] (.str k) = true
  l : -99 ≤ lo ∧ lo ≤ 0
  h : 0 ≤ hi ∧ lo + 1 ≤ hi ∧ hi ≤ 99
  hnd : isHand hand = true
  len : 1 ≤ ps.length ∧ ps.length ≤ 4
  all : ∀ q ∈ ps, isSlip q = true ∨ sub q = true
theorem ctr_shape {sub : D → Bool} {p : D} (h : ctr sub p = true) : ∃ k lo hi hand ps, CtrShape sub p k lo hi hand ps := by
  unfold ctr at h
  split at h
  · rename_i k lo hi hand parts
    have h := and2 h
    have h1 := and2 h.1
    have h2 := and2 h1.1
    have h3 := and2 h2.1
    have hlo := h3.2
    have hhi := h2.2
    cases lo <;> simp [isWhole] at hlo
    cases hi <;> simp [isWhole, pyMax] at hhi
    have hp := h.2
    cases parts <;> simp at hp
    refine ⟨k, _, _, hand, _, rfl, h3.1, hlo, ?_, h1.2, by omega, fun q hq => ?_⟩
    · split at hhi <;> omega
    · have := hp.2 q hq
      exact this
  · cases h
theorem isCounter_ok : ∀ {k : Nat} {p : D}, isCounter k p = true → okPart (k + 2) p = true
  | 0, p, h => by
    rw [isCounter] at h
    obtain ⟨k, lo, hi, hand, ps, S⟩ := ctr_shape h
    rw [S.eq]
    show (decide (ps.length ≤ 4) && ps.all (okPart 1)) = true
    rw [decide_eq_true S.len.2, Bool.true_and, List.all_eq_true]
    intro q hq
    rcases S.all q hq with h | h
    · exact isSlip_ok h 0
    · cases h
  | k + 1, p, h => by
    rw [isCounter] at h
    obtain ⟨kk, lo, hi, hand, ps, S⟩ := ctr_shape h
    rw [S.eq]
    show (decide (ps.length ≤ 4) && ps.all (okPart (k + 2))) = true
    rw [decide_eq_true S.len.2, Bool.true_and, List.all_eq_true]
    intro q hq
    rcases S.all q hq with h | h
    · exact isSlip_ok h (k + 1)
    · exact isCounter_ok h
def handNil : D → Bool
  | .tuple [_, _, _, h, _] => PyData.eqv h (.tuple [])
  | _ => false
def isBoard (v : D) : Bool := isCounter 2 v && handNil v && decide (1 ≤ ((slipsN 4 v).length : Int)) && decide (((slipsN 4 v).length : Int) ≤ 8) && decide (((ctrsN 4 v).length : Int) ≤ 6)
@[simp] def f_is_board : List D → Option Res
  | [v] => if v.canLay0 = true then some (.ok (.bool (isBoard v))) else none
  | _ => none
theorem ok_is_board (h3 : Fn Φ 3 (f_is_counter 3)) (h4 : Fn Φ 4 (f_slips_of 4)) (h5 : Fn Φ 5 (f_counters_of 4)) : ∀ args, fnP f_is_board args ≠ .bad → ∃ j, funOf 1 1 (denSs Φ j ir_is_board) args = fnP f_is_board args := fnP_ok fun ds r h => by
  unfold f_is_board at h
  split at h
  · rename_i v
    split at h
    · rename_i hv
      cases h
      refine ⟨rfl, 0, ?_⟩
      simp [ir_is_board, isBoard, *]
      cases hc : isCounter 2 v
      · simp
      have hok := isCounter_ok hc
      rw [isCounter] at hc
      obtain ⟨k, lo, hi, hand, ps, S⟩ := ctr_shape hc
      have := S.eq
      subst this
      simp at hv
      simp [neD, okPair, *, handNil]
      cases PyData.eqv hand (.tuple []) <;> simp [*]
      cases h1 : decide (1 ≤ ((slipsN 4 (.tuple [.str k, .int lo, .int hi, hand, .tuple ps])).length : Int)) <;> simp [*]
      cases h2 : decide (((slipsN 4 (.tuple [.str k, .int lo, .int hi, hand, .tuple ps])).length : Int) ≤ 8) <;> simp [*]
    · cases h
  · cases h
@[simp] def f_need_board : List D → Option Res
  | [v] => if v.canLay0 = true then some (if isBoard v = true then .ok .none else .error 1) else none
  | _ => none
theorem ok_need_board (h6 : Fn Φ 6 f_is_board) : ∀ args, fnP f_need_board args ≠ .bad → ∃ j, funOf 1 1 (denSs Φ j ir_need_board) args = fnP f_need_board args := fnP_ok fun ds r h => by
  unfold f_need_board at h
  split at h
  · rename_i v
    split at h
    · rename_i hv
      cases h
      refine ⟨rfl, 0, ?_⟩
      cases hb : isBoard v <;> simp [ir_need_board, *]
    · cases h
  · cases h
theorem board_ok {v : D} (h : isBoard v = true) : okPart 4 v = true := by
  unfold isBoard at h
  have h := and2 h
  have h := and2 h.1
  have h := and2 h.1
  have h := and2 h.1
  exact isCounter_ok h.1
@[simp] def f_slips : List D → Option Res
  | [v] => if v.canLay0 = true then some (if isBoard v = true then .ok (.list (slipsN 4 v)) else .error 1) else none
  | _ => none
theorem ok_slips (h7 : Fn Φ 7 f_need_board) (h4 : Fn Φ 4 (f_slips_of 4)) : ∀ args, fnP f_slips args ≠ .bad → ∃ j, funOf 1 1 (denSs Φ j ir_slips) args = fnP f_slips args := fnP_ok fun ds r h => by
  unfold f_slips at h
  split at h
  · rename_i v
    split at h
    · rename_i hv
      cases h
      refine ⟨rfl, 0, ?_⟩
      cases hb : isBoard v
      · simp [ir_slips, *]
      · have := board_ok hb
        simp [ir_slips, *]
    · cases h
  · cases h
@[simp] def f_counters : List D → Option Res
  | [v] => if v.canLay0 = true then some (if isBoard v = true then .ok (.list (ctrsN 4 v)) else .error 1) else none
  | _ => none
theorem ok_counters (h7 : Fn Φ 7 f_need_board) (h4 : Fn Φ 5 (f_counters_of 4)) : ∀ args, fnP f_counters args ≠ .bad → ∃ j, funOf 1 1 (denSs Φ j ir_counters) args = fnP f_counters args := fnP_ok fun ds r h => by
  unfold f_counters at h
  split at h
  · rename_i v
    split at h
    · rename_i hv
      cases h
      refine ⟨rfl, 0, ?_⟩
      cases hb : isBoard v
      · simp [ir_counters, *]
      · have := board_ok hb
        simp [ir_counters, *]
    · cases h
  · cases h
end K
namespace K
open PySem PySem.Spec L2 Fw
variable {Φ : FEnv}
def many (s c : Int) (k : Str) : Int := bif k == z_slip then s else c
def isBoolD : D → Bool
  | .bool _ => true
  | _ => false
def isFact (s c : Int) : D → Bool
  | .tuple [.str k, a, x] => isWhole a 0 (many s c k - 1) && (k == z_caught) && isBoolD x
  | .tuple [.str k, a, lo, hi] => isWhole a 0 (many s c k - 1) && anyEq [.str z_shows, .str z_slip] (.str k) && isWhole lo (-999) 999 && (match lo with
    | .int l => isWhole hi l 999
    | _ => false)
  | _ => false
def factOf (b v : D) : Bool := isFact (slipsN 4 b).length (ctrsN 4 b).length v
@[simp] theorem anyEq_int2 {a b n : Int} : anyEq [.int a, .int b] (.int n) = (decide (a = n) || decide (b = n)) := by
  simp [anyEq]; rfl
@[simp] def f_is_fact : List D → Option Res
  | [b, v] => if okPart 4 b = true ∧ v.canLay0 = true then some (.ok (.bool (factOf b v))) else none
  | _ => none
theorem ok_is_fact (h0 : Fn Φ 0 f_is_whole) (h4 : Fn Φ 4 (f_slips_of 4)) (h5 : Fn Φ 5 (f_counters_of 4)) : ∀ args, fnP f_is_fact args ≠ .bad → ∃ j, funOf 3 2 (denSs Φ j ir_is_fact) args = fnP f_is_fact args := fnP_ok fun ds r h => by
  unfold f_is_fact at h
  split at h
  · rename_i b v
    split at h
    · rename_i hv
      obtain ⟨hb, hv⟩ := hv
      cases h
      refine ⟨rfl, 0, ?_⟩
      cases v <;> (try simp at hv) <;> simp [ir_is_fact, factOf, isFact]
      rename_i xs
      match xs with
      | [] => simp [okPair]
      | [x] => simp [okPair]
      | [x, y] => simp [okPair]
      | x :: y :: z :: u :: t :: l =>
        have h3 : ¬ (3 = (l.length : Int) + 1 + 1 + 1 + 1 + 1) := by omega
        have h4 : ¬ (4 = (l.length : Int) + 1 + 1 + 1 + 1 + 1) := by omega
        simp [okPair, h3, h4]
      | [k, a, x] =>
        simp at hv
        cases k <;> simp [okPair, isFact]
        rename_i k
        simp [okPair, eqD, *]
        have hm : ∀ {r : EOut Ref}, (bif k == z_slip then r else r) = r := fun {r} => by cases (k == z_slip) <;> rfl
        cases hk : (k == z_slip) <;> simp [*, many] <;> generalize hw : isWhole a _ _ = t <;> cases t <;> simp [*]
        all_goals (cases hc : (k == z_caught) <;> simp [*])
        all_goals (cases x <;> simp [isBoolD])
      | [k, a, lo, hi] =>
        simp at hv
        cases k <;> simp [okPair, isFact]
        rename_i k
        simp [okPair, eqD, *]
        cases hk : (k == z_slip) <;> simp [*, many] <;> generalize hw : isWhole a _ _ = t <;> cases t <;> simp [*, okPair]
        all_goals (cases hc : anyEq [.str z_shows, .str z_slip] (.str k) <;> simp [*])
        all_goals (cases hl : isWhole lo (-999) 999 <;> simp [*])
        all_goals (try (cases lo <;> (try simp [isWhole] at hl) <;> simp [*]))
    · cases h
  · cases h
def areFacts (b v : D) : Bool := match v with
  | .tuple xs => decide (xs.length ≤ 6) && xs.all (factOf b)
  | _ => false
@[simp] def f_are_facts : List D → Option Res
  | [b, v] => if b.canLay0 = true ∧ v.canLay0 = true then some (if isBoard b = true then .ok (.bool (areFacts b v)) else .error 1) else none
  | _ => none
theorem ok_are_facts (h7 : Fn Φ 7 f_need_board) (h8 : Fn Φ 8 f_is_fact) : ∀ args, fnP f_are_facts args ≠ .bad → ∃ j, funOf 3 2 (denSs Φ j ir_are_facts) args = fnP f_are_facts args := fnP_ok fun ds r h => by
  unfold f_are_facts at h
  split at h
  · rename_i b v
    split at h
    · rename_i hv
      obtain ⟨hb, hv⟩ := hv
      cases h
      refine ⟨rfl, 0, ?_⟩
      cases hbb : isBoard b
      · simp [ir_are_facts, *]
      · have hok := board_ok hbb
        simp [ir_are_facts, *]
        cases v <;> (try simp at hv) <;> simp [areFacts]
        rename_i xs
        by_cases hl : xs.length ≤ 6
        · have hl' : ¬ (6 < (xs.length : Int)) := by omega
          simp [hl']
          rw [dComp_map (ds := xs) (g := fun p => .bool (factOf b p))]
          case hi => rfl
          · simp [hl]
          · rfl
          · exact szl (by omega)
          · intro d hd
            have hcd := clAll_mem hv hd
            simp [*, wipeE]
          · rfl
        · have hl' : 6 < (xs.length : Int) := by omega
          simp [hl', hl]
    · cases h
  · cases h
end K
namespace K
open PySem PySem.Spec L2 Fw
variable {Φ : FEnv}
/-! ### numbers drawn from a script -/
def vatOf (ns : List Int) (k : Int) : Vt :=
  let cell := match atI ns k with
    | some c => bif decide (k < (ns.length : Int)) then (if c < 0 then -c else c) else 7919 * k + 43
    | none => 7919 * k + 43
  (bif decide ((1000000000000000000 : Int) ≤ cell) then cell else 0, (cell * 131071 + 8191 * k + 5) % 2147483629 + 1)
@[simp] def f__law_vat : List D → Option (List D)
  | [.list ss, .int k] => if 0 ≤ k then (intsD ss).map fun ns => (vatOf ns k).l else none
  | _ => none
theorem intsD_map {ns : List Int} : intsD (ns.map PyData.int) = some ns := by
  induction ns with
  | nil => rfl
  | cons n ns ih => simp [intsD, ih]
theorem intsD_eq : ∀ {ss : List D} {ns : List Int}, intsD ss = some ns → ss = ns.map PyData.int
  | [], _, h => by cases h; rfl
  | d :: ss, ns, h => by
    cases d <;> simp [intsD] at h
    obtain ⟨ns', h1, rfl⟩ := h
    rw [List.map_cons, ← intsD_eq h1]
theorem atI_map {ns : List Int} {k : Int} : atI (ns.map PyData.int) k = (atI ns k).map PyData.int := by
  unfold atI
  rw [List.length_map]
  cases ixN ns.length k <;> simp
theorem atI_some {ns : List Int} {k : Int} (h0 : 0 ≤ k) (h : k < (ns.length : Int)) : ∃ c, atI ns k = some c := by
  obtain ⟨n, rfl⟩ := Int.eq_ofNat_of_zero_le h0
  exact ⟨_, atI_pos (by omega)⟩
theorem ok__law_vat : ∀ args, fnO f__law_vat args ≠ .bad → ∃ j, funOf 3 2 (denSs Φ j ir__law_vat) args = fnO f__law_vat args := fnO_ok fun ds r h => by
  unfold f__law_vat at h
  split at h
  · rename_i ss k
    split at h
    · rename_i hk
      obtain ⟨ns, hn, rfl⟩ := Option.map_eq_some_iff.mp h
      obtain rfl := intsD_eq hn
      refine ⟨rfl, 0, ?_⟩
      by_cases hl : k < (ns.length : Int)
      · obtain ⟨c, hc⟩ := atI_some hk hl
        generalize hcell : (if c < 0 then -c else c) = cell
        cases h18 : decide ((1000000000000000000 : Int) ≤ cell) <;> simp [ir__law_vat, atI_map, vatOf, *]
      · generalize hcell : 7919 * k + 43 = cell
        cases h18 : decide ((1000000000000000000 : Int) ≤ cell) <;> cases hc : atI ns k <;> simp [ir__law_vat, atI_map, vatOf, *]
    · cases h
  · cases h
def underV (v : Vt) (m : Int) : Int × Vt := if 0 < v.1 then (v.1 % m, (v.1 / m, v.2)) else
  (((((v.2 * 39373 + 101) % 2147483629) * (((v.2 * 39373 + 101) % 2147483629) / 5 + 9)) % 2147483587 / 32) % m, (v.1, (v.2 * 39373 + 101) % 2147483629))
@[simp] def f__law_under (v : Vt) : List D → Option (D × Vt)
  | [.int m] => if 0 < m ∧ m < 1073741824 then some (.int (underV v m).1, (underV v m).2) else none
  | _ => none
theorem ok__law_under : ∀ args, fnV f__law_under args ≠ .bad → ∃ j, funOf 4 2 (denSs Φ j ir__law_under) args = fnV f__law_under args := fnV_ok fun v ds r h => by
  unfold f__law_under at h
  split at h
  · rename_i m
    split at h
    · rename_i hm
      cases h
      refine ⟨rfl, 0, fun p => ?_⟩
      by_cases h0 : 0 < v.1
      · simp [ir__law_under, underV, *]
      · have hb : -18446744073709551616 < (v.2 * 39373 + 101) % 2147483629 ∧ (v.2 * 39373 + 101) % 2147483629 < 18446744073709551616 := by omega
        simp [ir__law_under, underV, *]
    · cases h
  · cases h
theorem under_lt (v : Vt) {m : Int} (h : 0 < m) : 0 ≤ (underV v m).1 ∧ (underV v m).1 < m := by
  unfold underV
  split
  · exact ⟨Int.emod_nonneg _ (by omega), Int.emod_lt_of_pos _ h⟩
  · exact ⟨Int.emod_nonneg _ (by omega), Int.emod_lt_of_pos _ h⟩
end K
namespace K
open PySem PySem.Spec L2 Fw
variable {Φ : FEnv}
abbrev FnV (Φ : FEnv) (i : Nat) (f : Vt → List D → Option (D × Vt)) : Prop := Φ.fn i = fnV f
/-! ### things drawn -/
def someV (v : Vt) (xs : List D) : D × Vt := (xs.getD (underV v xs.length).1.toNat .none, (underV v xs.length).2)
theorem some_at (v : Vt) {xs : List D} (h : 0 < xs.length) : atI xs (underV v xs.length).1 = some (someV v xs).1 := by
  obtain ⟨h0, h1⟩ := under_lt v (m := xs.length) (by omega)
  generalize hu : (underV v xs.length).1 = u at *
  obtain ⟨n, rfl⟩ := Int.eq_ofNat_of_zero_le h0
  have hn : n < xs.length := by omega
  rw [atI_pos hn]
  unfold someV
  simp [hu, List.getD_eq_getElem?_getD, hn]
theorem some_mem (v : Vt) {xs : List D} (h : 0 < xs.length) : (someV v xs).1 ∈ xs := by
  have h1 := some_at v h
  unfold atI at h1
  obtain ⟨j, _, h2⟩ := Option.bind_eq_some_iff.mp h1
  exact List.mem_of_getElem? h2
@[simp] def f__law_some (v : Vt) : List D → Option (D × Vt)
  | [.list xs] => if 0 < xs.length ∧ xs.length < 1000 then some (someV v xs) else none
  | _ => none
theorem ok__law_some (h13 : FnV Φ 13 f__law_under) : ∀ args, fnV f__law_some args ≠ .bad → ∃ j, funOf 2 2 (denSs Φ j ir__law_some) args = fnV f__law_some args := fnV_ok fun v ds r h => by
  unfold f__law_some at h
  split at h
  · rename_i xs
    split at h
    · rename_i hx
      cases h
      refine ⟨rfl, 0, fun p => ?_⟩
      have h1 : (0 : Int) < xs.length := by omega
      have h2 : (xs.length : Int) < 1073741824 := by omega
      have h3 := some_at v hx.1
      simp [ir__law_some, *]
      unfold someV; rfl
    · cases h
  · cases h
@[simp] def f__law_is_whole : List D → Option Res := f_is_whole
theorem ok__law_is_whole : ∀ args, fnP f__law_is_whole args ≠ .bad → ∃ j, funOf 3 3 (denSs Φ j ir__law_is_whole) args = fnP f__law_is_whole args := ok_is_whole
@[simp] def f__law_truly : List D → Option Res
  | [a, .bool b] => some (.ok (.bool (match a with
    | .bool x => x == b
    | _ => false)))
  | _ => none
theorem ok__law_truly : ∀ args, fnP f__law_truly args ≠ .bad → ∃ j, funOf 2 2 (denSs Φ j ir__law_truly) args = fnP f__law_truly args := fnP_ok fun ds r h => by
  unfold f__law_truly at h
  split at h
  · rename_i a b
    cases h
    refine ⟨rfl, 0, ?_⟩
    cases a <;> simp [ir__law_truly, eqD, okPair]
  · cases h
def slipV (v : Vt) : D × Vt := (.tuple [.int ((underV v 7).1 - 4), .int ((underV v 7).1 - 4 + (underV (underV v 7).2 4).1)], (underV (underV v 7).2 4).2)
@[simp] def f__law_slip (v : Vt) : List D → Option (D × Vt)
  | [] => some (slipV v)
  | _ => none
theorem ok__law_slip (h13 : FnV Φ 13 f__law_under) : ∀ args, fnV f__law_slip args ≠ .bad → ∃ j, funOf 2 1 (denSs Φ j ir__law_slip) args = fnV f__law_slip args := fnV_ok fun v ds r h => by
  unfold f__law_slip at h
  split at h
  · cases h
    exact ⟨rfl, 0, fun p => by simp [ir__law_slip, slipV, *]⟩
  · cases h
def handV (v : Vt) : D × Vt :=
  someV (underV (underV v 4).2 4).2 [.tuple [], .tuple [], .tuple [.str z_down, .int (2 + (underV v 4).1)], .tuple [.str z_near, .int (2 + (underV (underV v 4).2 4).1)]]
@[simp] def f__law_hand (v : Vt) : List D → Option (D × Vt)
  | [] => some (handV v)
  | _ => none
theorem ok__law_hand (h13 : FnV Φ 13 f__law_under) (h14 : FnV Φ 14 f__law_some) : ∀ args, fnV f__law_hand args ≠ .bad → ∃ j, funOf 1 1 (denSs Φ j ir__law_hand) args = fnV f__law_hand args := fnV_ok fun v ds r h => by
  unfold f__law_hand at h
  split at h
  · cases h
    exact ⟨rfl, 0, fun p => by simp [ir__law_hand, handV, *]⟩
  · cases h
def counterV (v : Vt) (hand parts : D) : D × Vt :=
  let k := someV v [.str z_stops, .str z_stops, .str z_turns]
  (.tuple [k.1, .int (-(underV k.2 5).1), .int (1 + (underV (underV k.2 5).2 8).1), hand, parts], (underV (underV k.2 5).2 8).2)
@[simp] def f__law_counter (v : Vt) : List D → Option (D × Vt)
  | [hand, parts] => some (counterV v hand parts)
  | _ => none
theorem ok__law_counter (h13 : FnV Φ 13 f__law_under) (h14 : FnV Φ 14 f__law_some) : ∀ args, fnV f__law_counter args ≠ .bad → ∃ j, funOf 5 3 (denSs Φ j ir__law_counter) args = fnV f__law_counter args := fnV_ok fun v ds r h => by
  unfold f__law_counter at h
  split at h
  · cases h
    exact ⟨rfl, 0, fun p => by simp [ir__law_counter, counterV, *]⟩
  · cases h
def innerV (v : Vt) : D × Vt :=
  let s := slipV v
  let r := underV s.2 3
  let q : List D × Vt := bif decide (r.1 = 0) then (let h := handV r.2; let s2 := slipV h.2; let c := counterV s2.2 h.1 (.tuple [s2.1]); ([s.1, c.1], c.2))
    else (let r2 := underV r.2 2; bif decide (r2.1 = 0) then (let s3 := slipV r2.2; ([s.1, s3.1], s3.2)) else ([s.1], r2.2))
  let h := handV q.2
  counterV h.2 h.1 (.tuple q.1)
@[simp] def f__law_inner (v : Vt) : List D → Option (D × Vt)
  | [] => some (innerV v)
  | _ => none
theorem ok__law_inner (h13 : FnV Φ 13 f__law_under) (h17 : FnV Φ 17 f__law_slip) (h18 : FnV Φ 18 f__law_hand) (h19 : FnV Φ 19 f__law_counter) : ∀ args, fnV f__law_inner args ≠ .bad → ∃ j, funOf 2 1 (denSs Φ j ir__law_inner) args = fnV f__law_inner args := fnV_ok fun v ds r h => by
  unfold f__law_inner at h
  split at h
  · cases h
    refine ⟨rfl, 0, fun p => ?_⟩
    cases h1 : decide ((underV (slipV v).2 3).1 = 0)
    · cases h2 : decide ((underV (underV (slipV v).2 3).2 2).1 = 0) <;> simp [ir__law_inner, innerV, -decide_eq_true_eq, -decide_eq_false_iff_not, *]
    · simp [ir__law_inner, innerV, -decide_eq_true_eq, -decide_eq_false_iff_not, *]
  · cases h
end K
namespace K
open PySem PySem.Spec L2 Fw
variable {Φ : FEnv}
abbrev BSt := List D × Int × Vt × Option D
def bstep (s : BSt) (d : D) : BSt :=
  bif decide (s.2.1 < 2) then (let u := underV s.2.2.1 3
    bif decide (u.1 = 0) then (s.1 ++ [(innerV u.2).1], s.2.1 + 1, (innerV u.2).2, some d) else (s.1 ++ [(slipV u.2).1], s.2.1, (slipV u.2).2, some d))
  else (s.1 ++ [(slipV s.2.2.1).1], s.2.1, (slipV s.2.2.1).2, some d)
def boardS (v : Vt) (most : Int) : BSt := (rangeD 0 (1 + (underV v most).1)).foldl bstep ([], 0, (underV v most).2, none)
def boardV (v : Vt) (most : Int) : D × Vt := counterV (boardS v most).2.2.1 (.tuple []) (.tuple (boardS v most).1)
@[simp] def f__law_board (v : Vt) : List D → Option (D × Vt)
  | [.int m] => if 0 < m ∧ m < 100 then some (boardV v m) else none
  | _ => none
theorem rangeD_length (lo hi : Int) : (rangeD lo hi).length = (hi - lo).toNat := by simp [rangeD]
theorem bstep_len (s : BSt) (d : D) : (bstep s d).1.length = s.1.length + 1 := by
  unfold bstep
  cases decide (s.2.1 < 2)
  · simp
  · simp only [cond_true]
    cases decide ((underV s.2.2.1 3).1 = 0) <;> simp
theorem ok__law_board (h13 : FnV Φ 13 f__law_under) (h17 : FnV Φ 17 f__law_slip) (h19 : FnV Φ 19 f__law_counter) (h20 : FnV Φ 20 f__law_inner) : ∀ args, fnV f__law_board args ≠ .bad → ∃ j, funOf 5 2 (denSs Φ j ir__law_board) args = fnV f__law_board args := fnV_ok fun v ds r h => by
  unfold f__law_board at h
  split at h
  · rename_i m
    split at h
    · rename_i hm
      cases h
      refine ⟨rfl, 0, fun p => ?_⟩
      obtain ⟨u0, u1⟩ := under_lt v (m := m) hm.1
      have b1 : m < 1073741824 := by omega
      have b2 : -4611686018427387904 ≤ 1 + (underV v m).1 := by omega
      have b3 : 1 + (underV v m).1 < 4611686018427387904 := by omega
      simp [ir__law_board, *]
      rw [forL_at (fun (s : BSt) => [some (SV.own p [.int s.2.2.1.1, .int s.2.2.1.2]), some (SV.d (.int m)), some (SV.d (.tuple s.1)), some (SV.d (.int s.2.1)), s.2.2.2.map SV.d]) bstep (fun s ds => s.1.length + ds.length ≤ 1000) ([], 0, (underV v m).2, none) ?_ (fun s d ds hP => ?_) ?_]
      · show endsV ((SOut.nx [some (SV.own p [.int (boardS v m).2.2.1.1, .int (boardS v m).2.2.1.2]), some (SV.d (.int m)), some (SV.d (.tuple (boardS v m).1)), some (SV.d (.int (boardS v m).2.1)), (boardS v m).2.2.2.map SV.d]).bind _) _ _ _
        simp [boardV, *]
      · rfl
      · rw [rangeD_length]
        simp; omega
      · obtain ⟨ps, i, w, o⟩ := s
        refine ⟨[some (SV.own p [.int w.1, .int w.2]), some (SV.d (.int m)), some (SV.d (.tuple ps)), some (SV.d (.int i)), some (SV.d d)], by cases o <;> rfl, ?_, ?_⟩
        · simp at hP
          have hz : ps.length + 1 ≤ sizeLine := szl2 (by omega)
          cases h1 : decide (i < 2)
          · simp [bstep, -decide_eq_true_eq, -decide_eq_false_iff_not, *]
          · cases h2 : decide ((underV w 3).1 = 0) <;> simp [bstep, -decide_eq_true_eq, -decide_eq_false_iff_not, *]
        · simp at hP
          rw [bstep_len]
          simp; omega
    · cases h
  · cases h
end K
namespace K
open PySem PySem.Spec L2 Fw
variable {Φ : FEnv}
theorem slips_are : ∀ {k : Nat} {p : D}, isCounter k p = true → ∀ s ∈ slipsN (k + 2) p, isSlip s = true := by
  have one : ∀ (j : Nat) {q : D}, isSlip q = true → ∀ s ∈ slipsN (j + 1) q, isSlip s = true := fun j q h s hs => by
    obtain ⟨a, b, rfl, _⟩ := isSlip_shape h
    have : s ∈ [PyData.tuple [.int a, .int b]] := hs
    rw [List.mem_singleton.mp this]; exact h
  intro k
  induction k with
  | zero =>
    intro p h s hs
    rw [isCounter] at h
    obtain ⟨k, lo, hi, hand, ps, S⟩ := ctr_shape h
    rw [S.eq] at hs
    obtain ⟨q, hq, hs⟩ := List.mem_flatMap.mp (show s ∈ ps.flatMap (slipsN 1) from hs)
    rcases S.all q hq with h | h
    · exact one 0 h s hs
    · cases h
  | succ k ih =>
    intro p h s hs
    rw [isCounter] at h
    obtain ⟨kk, lo, hi, hand, ps, S⟩ := ctr_shape h
    rw [S.eq] at hs
    obtain ⟨q, hq, hs⟩ := List.mem_flatMap.mp (show s ∈ ps.flatMap (slipsN (k + 2)) from hs)
    rcases S.all q hq with h | h
    · exact one (k + 1) h s hs
    · exact ih h s hs
theorem ctrs_are : ∀ {k : Nat} {p : D}, isCounter k p = true → ∀ s ∈ ctrsN (k + 2) p, ∃ (kk : Str) (lo hi : Int) (hand : D) (ps : List D), s = .tuple [.str kk, .int lo, .int hi, hand, .tuple ps] ∧ -99 ≤ lo ∧ lo < hi ∧ hi ≤ 99 := by
  have one : ∀ (j : Nat) {q : D}, isSlip q = true → ∀ s ∈ ctrsN (j + 1) q, False := fun j q h s hs => by
    obtain ⟨a, b, rfl, _⟩ := isSlip_shape h
    have : s ∈ ([] : List D) := hs
    cases this
  intro k
  induction k with
  | zero =>
    intro p h s hs
    rw [isCounter] at h
    obtain ⟨k, lo, hi, hand, ps, S⟩ := ctr_shape h
    rw [S.eq] at hs
    rcases List.mem_cons.mp (show s ∈ _ :: ps.flatMap (ctrsN 1) from hs) with rfl | hs
    · have := S.h; have := S.l
      exact ⟨_, _, _, _, _, rfl, by omega, by omega, by omega⟩
    · obtain ⟨q, hq, hs⟩ := List.mem_flatMap.mp hs
      rcases S.all q hq with h | h
      · exact (one 0 h s hs).elim
      · cases h
  | succ k ih =>
    intro p h s hs
    rw [isCounter] at h
    obtain ⟨kk, lo, hi, hand, ps, S⟩ := ctr_shape h
    rw [S.eq] at hs
    rcases List.mem_cons.mp (show s ∈ _ :: ps.flatMap (ctrsN (k + 2)) from hs) with rfl | hs
    · have := S.h; have := S.l
      exact ⟨_, _, _, _, _, rfl, by omega, by omega, by omega⟩
    · obtain ⟨q, hq, hs⟩ := List.mem_flatMap.mp hs
      rcases S.all q hq with h | h
      · exact (one (k + 1) h s hs).elim
      · exact ih h s hs
theorem board_ctr {b : D} (h : isBoard b = true) : isCounter 2 b = true := by
  unfold isBoard at h
  exact (and2 (and2 (and2 (and2 h).1).1).1).1
theorem board_slips {b : D} (h : isBoard b = true) : 1 ≤ (slipsN 4 b).length ∧ (slipsN 4 b).length ≤ 8 := by
  unfold isBoard at h
  have h1 := (and2 (and2 (and2 h).1).1).2
  have h2 := (and2 (and2 h).1).2
  have := of_decide_eq_true h1
  have := of_decide_eq_true h2
  omega
theorem board_ctrs {b : D} (h : isBoard b = true) : 1 ≤ (ctrsN 4 b).length ∧ (ctrsN 4 b).length ≤ 6 := by
  have hc := board_ctr h
  unfold isBoard at h
  have h1 := of_decide_eq_true (and2 h).2
  rw [isCounter] at hc
  obtain ⟨k, lo, hi, hand, ps, S⟩ := ctr_shape hc
  have e := S.eq
  subst e
  refine ⟨?_, by omega⟩
  show 1 ≤ (_ :: ps.flatMap (ctrsN 3)).length
  simp
def fst0 : D → Int
  | .tuple (.int a :: _) => a
  | _ => 0
def loHi : D → Int × Int
  | .tuple [_, .int l, .int h, _, _] => (l, h)
  | _ => (0, 0)
def factV (v : Vt) (b : D) : D × Vt :=
  let w := underV v 3
  bif decide (w.1 = 0) then
    let a := underV w.2 (slipsN 4 b).length
    let f0 := underV a.2 4
    let first := fst0 (someV w.2 (slipsN 4 b)).1 + f0.1 - 1
    let l := underV f0.2 4
    (.tuple [.str z_slip, .int a.1, .int first, .int (first + l.1)], l.2)
  else
    let a := underV w.2 (ctrsN 4 b).length
    bif decide (w.1 = 1) then
      let t := underV a.2 2
      (.tuple [.str z_caught, .int a.1, .bool (decide (t.1 = 0))], t.2)
    else
      let q := loHi (someV w.2 (ctrsN 4 b)).1
      let g := underV a.2 (q.2 - q.1 + 1)
      let first := q.1 + g.1
      let l := underV g.2 4
      (.tuple [.str z_shows, .int a.1, .int first, .int (first + l.1)], l.2)
@[simp] theorem slD_tuple {xs : List D} {lo hi : Option Int} : slD (.tuple xs) lo hi = some (.tuple (cutD xs lo hi)) := rfl
@[simp] theorem slD_list {xs : List D} {lo hi : Option Int} : slD (.list xs) lo hi = some (.list (cutD xs lo hi)) := rfl
@[simp] theorem cut13 {a b c d e : D} : cutD [a, b, c, d, e] (some 1) (some 3) = [b, c] := by simp [cutD, HT.sIx]
@[simp] def f__law_fact (v : Vt) : List D → Option (D × Vt)
  | [b] => if isBoard b = true then some (factV v b) else none
  | _ => none
theorem ok__law_fact (h13 : FnV Φ 13 f__law_under) (h22 : Fn Φ 22 (f__law_slips 4)) (h23 : Fn Φ 23 (f__law_counters 4)) : ∀ args, fnV f__law_fact args ≠ .bad → ∃ j, funOf 7 2 (denSs Φ j ir__law_fact) args = fnV f__law_fact args := fnV_ok fun v ds r h => by
  unfold f__law_fact at h
  split at h
  · rename_i b
    split at h
    · rename_i hb
      cases h
      refine ⟨rfl, 0, fun p => ?_⟩
      have hok := board_ok hb
      have hs := board_slips hb
      have hc := board_ctrs hb
      have s1 : 0 < (slipsN 4 b).length := by omega
      have s2 : ((slipsN 4 b).length : Int) < 1073741824 := by omega
      have c1 : 0 < (ctrsN 4 b).length := by omega
      have c2 : ((ctrsN 4 b).length : Int) < 1073741824 := by omega
      have s3 := some_at (underV v 3).2 (xs := slipsN 4 b) (by omega)
      have c3 := some_at (underV v 3).2 (xs := ctrsN 4 b) (by omega)
      obtain ⟨x, y, hx, _⟩ := isSlip_shape (slips_are (board_ctr hb) _ (some_mem (underV v 3).2 (xs := slipsN 4 b) (by omega)))
      obtain ⟨kk, lo, hi, hand, ps, hq, q1, q2, q3⟩ := ctrs_are (board_ctr hb) _ (some_mem (underV v 3).2 (xs := ctrsN 4 b) (by omega))
      have d1 : 0 < hi - lo + 1 := by omega
      have d2 : hi - lo + 1 < 1073741824 := by omega
      cases h1 : decide ((underV v 3).1 = 0)
      · cases h2 : decide ((underV v 3).1 = 1) <;> simp [ir__law_fact, factV, loHi, -decide_eq_true_eq, -decide_eq_false_iff_not, *]
      · simp [ir__law_fact, factV, fst0, -decide_eq_true_eq, -decide_eq_false_iff_not, *]
    · cases h
  · cases h
end K
namespace K
open PySem PySem.Spec L2 Fw
variable {Φ : FEnv}
def factsV (v : Vt) (b : D) (most : Int) : D × Vt :=
  let q := stRun (fun v _ => factV v b) (underV v (most + 1)).2 (rangeD 0 (underV v (most + 1)).1)
  (.tuple q.1, q.2)
@[simp] def f__law_facts (v : Vt) : List D → Option (D × Vt)
  | [b, .int m] => if isBoard b = true ∧ 0 ≤ m ∧ m < 100 then some (factsV v b m) else none
  | _ => none
theorem ok__law_facts (h13 : FnV Φ 13 f__law_under) (h24 : FnV Φ 24 f__law_fact) : ∀ args, fnV f__law_facts args ≠ .bad → ∃ j, funOf 4 3 (denSs Φ j ir__law_facts) args = fnV f__law_facts args := fnV_ok fun v ds r h => by
  unfold f__law_facts at h
  split at h
  · rename_i b m
    split at h
    · rename_i hm
      obtain ⟨hb, hm0, hm1⟩ := hm
      cases h
      refine ⟨rfl, 0, fun p => ?_⟩
      obtain ⟨u0, u1⟩ := under_lt v (m := m + 1) (by omega)
      have b0 : 0 < m + 1 := by omega
      have b1 : m + 1 < 1073741824 := by omega
      have b2 : -4611686018427387904 ≤ (underV v (m + 1)).1 := by omega
      have b3 : (underV v (m + 1)).1 < 4611686018427387904 := by omega
      have hc := dComp_st (fun (w : Vt) => [some (SV.own p [.int w.1, .int w.2]), some (SV.d b), some (SV.d (.int m)), none]) (fun v _ => factV v b) (fun _ _ => True) (underV v (m + 1)).2
        (fi := denI Φ (IT.rng1 (IE.call 13 2 [IE.peek 0, IE.bin Operator.Add (IE.var 2) (IE.cst (.int 1))]))) (vs := [3]) (b := setD 3) (fe := den Φ (IE.call 24 2 [IE.peek 0, IE.var 1])) (e := [some (SV.own p [.int v.1, .int v.2]), some (SV.d b), some (SV.d (.int m)), none])
        (e1 := [some (SV.own p [.int (underV v (m + 1)).2.1, .int (underV v (m + 1)).2.2]), some (SV.d b), some (SV.d (.int m)), none]) (ds := rangeD 0 (underV v (m + 1)).1) (by simp [*]) rfl rfl trivial (by rw [rangeD_length]; exact szl2 (by omega))
        (fun s d ds _ => ⟨[some (SV.own p [.int s.1, .int s.2]), some (SV.d b), some (SV.d (.int m)), some (SV.d d)], rfl, [some (SV.own p [.int (factV s b).2.1, .int (factV s b).2.2]), some (SV.d b), some (SV.d (.int m)), some (SV.d d)], by simp [*], rfl, trivial⟩)
      simp [ir__law_facts, hc, factsV]
    · cases h
  · cases h
@[simp] def f__law_is_slip : List D → Option Res := f_is_slip
theorem ok__law_is_slip (h15 : Fn Φ 15 f__law_is_whole) : ∀ args, fnP f__law_is_slip args ≠ .bad → ∃ j, funOf 1 1 (denSs Φ j ir__law_is_slip) args = fnP f__law_is_slip args := fnP_ok fun ds r h => by
  unfold f__law_is_slip f_is_slip at h
  split at h
  · rename_i v
    cases h
    refine ⟨rfl, 0, ?_⟩
    cases v <;> simp [ir__law_is_slip, isSlip]
    rename_i xs
    match xs with
    | [] => simp
    | [a] => simp
    | a :: b :: c :: l =>
      have : ¬ ((l.length : Int) + 1 + 1 + 1 = 2) := by omega
      simp [this]
    | [a, b] =>
      simp [*]
      cases hw : isWhole a (-20) 20 <;> simp [*]
      cases a <;> simp [isWhole] at hw ⊢
      rename_i x
      cases b <;> simp [isWhole, *]
      rename_i y
      by_cases h1 : -20 ≤ y <;> by_cases h2 : y ≤ 20 <;> by_cases h3 : x ≤ y <;> simp [h1, h2, h3] <;> omega
  · cases h
@[simp] def f__law_is_hand : List D → Option Res := f_is_hand
theorem ok__law_is_hand (h15 : Fn Φ 15 f__law_is_whole) : ∀ args, fnP f__law_is_hand args ≠ .bad → ∃ j, funOf 1 1 (denSs Φ j ir__law_is_hand) args = fnP f__law_is_hand args := fnP_ok fun ds r h => by
  unfold f__law_is_hand f_is_hand at h
  split at h
  · rename_i v
    split at h
    · rename_i hv
      cases h
      refine ⟨rfl, 0, ?_⟩
      cases v <;> (try simp at hv) <;> simp [ir__law_is_hand, isHand, okPair]
      rename_i xs
      match xs with
      | [] => simp
      | [a] => simp
      | a :: b :: c :: l =>
        have h1 : ¬ (0 = (l.length : Int) + 1 + 1 + 1) := by omega
        have h2 : ¬ (2 = (l.length : Int) + 1 + 1 + 1) := by omega
        simp [h1, h2]
      | [a, b] =>
        cases a <;> (try simp at hv) <;> simp [okPair, *]
        rename_i s
        cases hs : anyEq [.str z_down, .str z_near] (.str s) <;> simp [*]
    · cases h
  · cases h
/-- what the law says of a counter, deep levels allowed (none below 0) -/
def lawCtr (j : Nat) (k : Int) (v : D) : Bool := decide (0 ≤ k) && isCounter k.toNat v
@[simp] def f__law_is_counter (j : Nat) : List D → Option Res
  | [v, .int k] => if k + 1 < j ∧ -1 ≤ k ∧ v.canLay0 = true ∧ wd 1000 v = true then some (.ok (.bool (lawCtr j k v))) else none
  | _ => none
theorem filter_isEmpty {ps : List D} {p : D → Bool} : (ps.filter fun d => !p d).isEmpty = ps.all p := by
  induction ps with
  | nil => rfl
  | cons d ps ih => cases h : p d <;> simp [List.filter_cons, h, ih]
theorem filter_isEmpty2 {ps : List D} {a b : D → Bool} : (ps.filter fun d => !a d && !b d).isEmpty = ps.all fun d => a d || b d := by
  rw [← filter_isEmpty]
  congr 2
  funext d
  rw [Bool.not_or]
theorem cl_filter {ps : List D} {p : D → Bool} (h : PyData.canLayAll0 ps = true) : PyData.canLayAll0 (ps.filter p) = true := clAll_of fun d hd => clAll_mem h (List.mem_filter.mp hd).1
theorem whole_max {l h : Int} (hl : l ≤ 0) (h0 : 0 ≤ h) (h9 : h ≤ 99) : isWhole (.int h) (pyMax 0 (l + 1)) 99 = !decide (l = h) := by
  unfold isWhole pyMax
  by_cases h1 : l + 1 > 0
  · rw [if_pos h1]
    by_cases h2 : l = h
    · subst h2
      have : ¬ (l + 1 ≤ l) := by omega
      simp [this]
    · have : l + 1 ≤ h := by omega
      simp [h2, this, h9]
  · rw [if_neg h1]
    have : ¬ (l = h) := by omega
    simp [this, h0, h9]
theorem whole_no {d : D} {l : Int} (h : isWhole d 0 99 = false) : isWhole d (pyMax 0 (l + 1)) 99 = false := by
  cases d <;> simp [isWhole] at h ⊢
  intro h1
  apply h
  unfold pyMax at h1
  split at h1 <;> omega
theorem law_sub {j n : Nat} {d : D} : lawCtr j ((n : Int) - 1) d = subC n d := by
  unfold lawCtr subC
  have h1 : ((n : Int) - 1).toNat = n - 1 := by omega
  have h2 : decide (0 ≤ (n : Int) - 1) = decide (0 < n) := decide_eq_decide.mpr (by omega)
  rw [h1, h2]
theorem ok__law_is_counter {j : Nat} (h15 : Fn Φ 15 f__law_is_whole) (h26 : Fn Φ 26 f__law_is_slip) (h27 : Fn Φ 27 f__law_is_hand) (h28 : Fn Φ 28 (f__law_is_counter j)) : ∀ args, fnP (f__law_is_counter (j + 1)) args ≠ .bad → ∃ n, funOf 4 2 (denSs Φ n ir__law_is_counter) args = fnP (f__law_is_counter (j + 1)) args := fnP_ok fun ds r h => by
  unfold f__law_is_counter at h
  split at h
  · rename_i v k
    split at h
    · rename_i hv
      obtain ⟨hkj, hk1, hv, hw⟩ := hv
      cases h
      refine ⟨rfl, 0, ?_⟩
      unfold lawCtr
      by_cases hk0 : k < 0
      · have : ¬ (0 ≤ k) := by omega
        simp [ir__law_is_counter, *]
      have hk : 0 ≤ k := by omega
      rw [isCounter_eq]
      obtain ⟨n, rfl⟩ := Int.eq_ofNat_of_zero_le hk
      rw [Int.toNat_natCast, decide_eq_true hk, Bool.true_and]
      cases v <;> (try simp at hv) <;> simp [ir__law_is_counter, ctr, hk0]
      rename_i xs
      by_cases hl : xs.length = 5
      · obtain ⟨kind, lo, hi, hand, parts, rfl⟩ := len5 hl
        simp at hv hw
        obtain ⟨hv1, hv2, hv3, hv4, hv5⟩ := hv
        cases kind <;> simp [ctr]
        rename_i ks
        simp [okPair, *]
        cases hks : anyEq [.str z_stops, .str z_turns] (.str ks)
        · simp
        simp [*]
        cases hlo : isWhole lo (-99) 0
        · simp
        simp [*]
        cases lo <;> simp [isWhole] at hlo
        rename_i l
        simp [*]
        cases hhi : isWhole hi 0 99
        · simp [*, whole_no hhi]
        simp [*]
        cases hi <;> simp [isWhole] at hhi
        rename_i h
        rw [whole_max hlo.2 hhi.1 hhi.2]
        simp [*]
        cases hlh : decide (l = h)
        case true => simp [*]
        simp [*]
        cases hha : isHand hand
        · simp [*]
        simp [*]
        cases parts <;> (try simp at hv5) <;> simp [*]
        rename_i ps
        simp at hw
        rw [dComp_filter (ds := ps) (g := fun d => d) (t := fun p => !isSlip p && !subC n p)]
        case hi => rfl
        · simp [*, eqD, okPair, cl_filter, filter_isEmpty2]
          cases h1l : decide (1 ≤ (ps.length : Int)) <;> simp [*]
          cases h4l : decide ((ps.length : Int) ≤ 4) <;> simp [*]
          have hcf : PyData.canLayAll0 (ps.filter fun p => !isSlip p && !subC n p) = true := cl_filter hv5
          simp [*]
          exact filter_isEmpty2
        · rfl
        · exact szl2 (by omega)
        · intro d hd
          have hcd := clAll_mem hv5 hd
          have hwd := wdAll_mem hw.2.2 hd
          refine ⟨_, rfl, ?_⟩
          have n1 : (n : Int) < j := by omega
          have n2 : -1 ≤ (n : Int) - 1 := by omega
          cases hs : isSlip d
          · cases hq : subC n d <;> simp [*, law_sub]
          · simp [*]
        · rfl
      · have h5 : ¬ ((xs.length : Int) = 5) := by omega
        simp [h5]
        split
        · rename_i h; cases h; exact absurd rfl hl
        · rfl
    · cases h
  · cases h
end K
namespace K
open PySem PySem.Spec L2 Fw
variable {Φ : FEnv}
@[simp] def f__law_is_board : List D → Option Res
  | [v] => if v.canLay0 = true ∧ wd 1000 v = true then some (.ok (.bool (isBoard v))) else none
  | _ => none
theorem ok__law_is_board (h28 : Fn Φ 28 (f__law_is_counter 4)) (h22 : Fn Φ 22 (f__law_slips 4)) (h23 : Fn Φ 23 (f__law_counters 4)) : ∀ args, fnP f__law_is_board args ≠ .bad → ∃ j, funOf 1 1 (denSs Φ j ir__law_is_board) args = fnP f__law_is_board args := fnP_ok fun ds r h => by
  unfold f__law_is_board at h
  split at h
  · rename_i v
    split at h
    · rename_i hv
      obtain ⟨hv, hw⟩ := hv
      cases h
      refine ⟨rfl, 0, ?_⟩
      simp [ir__law_is_board, isBoard, lawCtr, *]
      cases hc : isCounter 2 v
      · simp
      have hok := isCounter_ok hc
      rw [isCounter] at hc
      obtain ⟨k, lo, hi, hand, ps, S⟩ := ctr_shape hc
      have := S.eq
      subst this
      simp at hv
      simp [neD, okPair, *, handNil]
      cases PyData.eqv hand (.tuple []) <;> simp [*]
      cases h1 : decide (1 ≤ ((slipsN 4 (.tuple [.str k, .int lo, .int hi, hand, .tuple ps])).length : Int)) <;> simp [*]
      cases h2 : decide (((slipsN 4 (.tuple [.str k, .int lo, .int hi, hand, .tuple ps])).length : Int) ≤ 8) <;> simp [*]
    · cases h
  · cases h
theorem whole_lo {d : D} {l : Int} (h : isWhole d (-999) 999 = false) (hl : -999 ≤ l) : isWhole d l 999 = false := by
  cases d <;> simp [isWhole] at h ⊢
  intro h1
  exact h (by omega)
@[simp] def f__law_is_fact : List D → Option Res := f_is_fact
theorem ok__law_is_fact (h15 : Fn Φ 15 f__law_is_whole) (h22 : Fn Φ 22 (f__law_slips 4)) (h23 : Fn Φ 23 (f__law_counters 4)) : ∀ args, fnP f__law_is_fact args ≠ .bad → ∃ j, funOf 3 2 (denSs Φ j ir__law_is_fact) args = fnP f__law_is_fact args := fnP_ok fun ds r h => by
  unfold f__law_is_fact f_is_fact at h
  split at h
  · rename_i b v
    split at h
    · rename_i hv
      obtain ⟨hb, hv⟩ := hv
      cases h
      refine ⟨rfl, 0, ?_⟩
      cases v <;> (try simp at hv) <;> simp [ir__law_is_fact, factOf, isFact]
      rename_i xs
      match xs with
      | [] => simp [okPair]
      | [x] => simp [okPair]
      | [x, y] => simp [okPair]
      | x :: y :: z :: u :: t :: l =>
        have h3 : ¬ (3 = (l.length : Int) + 1 + 1 + 1 + 1 + 1) := by omega
        have h4 : ¬ (4 = (l.length : Int) + 1 + 1 + 1 + 1 + 1) := by omega
        simp [okPair, h3, h4]
      | [k, a, x] =>
        simp at hv
        cases k <;> simp [okPair, isFact]
        rename_i k
        simp [okPair, *]
        cases hk : (k == z_slip) <;> simp [*, many] <;> generalize hw : isWhole a _ _ = t <;> cases t <;> simp [*]
        all_goals (cases hc : (k == z_caught) <;> simp [*, okPair])
        all_goals (cases hq : anyEq [.str z_shows, .str z_slip] (.str k) <;> try simp [*])
        all_goals (cases x <;> simp [isBoolD])
      | [k, a, lo, hi] =>
        simp at hv
        cases k <;> simp [okPair, isFact]
        rename_i k
        simp [okPair, *]
        have hcs : (k == z_caught) = true → anyEq [.str z_shows, .str z_slip] (.str k) = false := fun h => by
          have := beq_iff_eq.mp h
          subst this
          simp [anyEq]
        cases hk : (k == z_slip) <;> simp [*, many] <;> generalize hw : isWhole a _ _ = t <;> cases t <;> simp [*]
        all_goals (cases hc : (k == z_caught) <;> simp [*, okPair])
        all_goals (cases hq : anyEq [.str z_shows, .str z_slip] (.str k) <;> simp [*])
        all_goals
          cases hl : isWhole lo (-999) 999
          · simp [*]
          simp [*]
          cases lo <;> (try simp [isWhole] at hl)
          simp [*]
          cases hh : isWhole hi (-999) 999
          · simp [*, whole_lo hh hl.1]
          simp [*]
          cases hi <;> (try simp [isWhole] at hh)
          simp [isWhole, *]
    · cases h
  · cases h
end K
namespace K
open PySem PySem.Spec L2 Fw
variable {Φ : FEnv}
def alts : D → List D
  | .tuple xs => [.list xs, .tuple (cutD xs (some 1) none), .tuple (xs ++ cutD xs (some (-1)) none), .tuple xs.reverse, .none, .tuple [.int 1, .int 2]]
  | .str _ => [.str z_stops, .str z_turns, .str z_near, .str z_slip, .str z_, .str z_Stops]
  | .bool b => [.bool (!b), .int (if b then 1 else 0), .none, .str z_caught, .int 2, .bool true]
  | .int n => [.int (n + 1), .int (n - 1), .int (-n), .bool true, .none, .int (n + 95)]
  | _ => [.int 0, .tuple [], .str z_stops, .tuple [.int 0, .int 1], .int (-1), .bool true]
theorem alts_len (d : D) : (alts d).length = 6 := by cases d <;> rfl
def leafV (v : Vt) (d : D) : D × Vt := someV v (alts d)
theorem leaf_at (v : Vt) (d : D) : atI (alts d) (underV v 6).1 = some (leafV v d).1 := by
  have := some_at v (xs := alts d) (by rw [alts_len]; decide)
  rw [alts_len] at this
  exact this
theorem leaf_st (v : Vt) (d : D) : (leafV v d).2 = (underV v 6).2 := by
  unfold leafV someV; rw [alts_len]; rfl
def spoiltV : Nat → Vt → D → D × Vt
  | 0, v, d => (d, v)
  | j + 1, v, .tuple xs => bif xs.isEmpty then leafV v (.tuple xs) else (
      bif decide (0 < (underV v 5).1) then
        (.tuple (cutD xs none (some (underV (underV v 5).2 xs.length).1) ++ [(spoiltV j (underV (underV v 5).2 xs.length).2 (someV (underV v 5).2 xs).1).1] ++ cutD xs (some ((underV (underV v 5).2 xs.length).1 + 1)) none),
          (spoiltV j (underV (underV v 5).2 xs.length).2 (someV (underV v 5).2 xs).1).2)
      else leafV (underV v 5).2 (.tuple xs))
  | j + 1, v, d => leafV v d
@[simp] def f__law_spoilt (j : Nat) (v : Vt) : List D → Option (D × Vt)
  | [d] => if PyData.depth d < j ∧ d.canLay0 = true ∧ wd 500 d = true then some (spoiltV j v d) else none
  | _ => none
theorem cut_len {xs : List D} {lo hi : Option Int} : (cutD xs lo hi).length ≤ xs.length := by
  unfold cutD
  rw [List.length_take, List.length_drop]
  omega
theorem depth_mem {xs : List D} {x : D} (h : x ∈ xs) : PyData.depth x ≤ PyData.depthAll xs := by
  induction xs with
  | nil => cases h
  | cons y ys ih =>
    rw [dp_cons]
    rcases List.mem_cons.mp h with rfl | h
    · exact Nat.le_max_left _ _
    · exact Nat.le_trans (ih h) (Nat.le_max_right _ _)
theorem ok__law_spoilt {j : Nat} (h13 : FnV Φ 13 f__law_under) (h31 : FnV Φ 31 (f__law_spoilt j)) : ∀ args, fnV (f__law_spoilt (j + 1)) args ≠ .bad → ∃ n, funOf 4 2 (denSs Φ n ir__law_spoilt) args = fnV (f__law_spoilt (j + 1)) args := fnV_ok fun v ds r h => by
  unfold f__law_spoilt at h
  split at h
  · rename_i d
    split at h
    · rename_i hd
      obtain ⟨hdp, hcl, hw⟩ := hd
      cases h
      refine ⟨rfl, 0, fun p => ?_⟩
      have lf := fun v => leaf_at v d
      have ls := fun v => leaf_st v d
      cases d with
      | tuple xs =>
        simp at hcl hw hdp
        have hc1 : xs.length + (cutD xs (some (-1)) none).length ≤ sizeLine := szl2 (by have := cut_len (xs := xs) (lo := some (-1)) (hi := none); omega)
        dsimp only [alts] at lf
        cases he : xs.isEmpty
        · have hl : 0 < xs.length := List.length_pos_iff.mpr (by intro z; rw [z] at he; cases he)
          have hl2 : (xs.length : Int) < 1073741824 := by omega
          cases h5 : decide (0 < (underV v 5).1)
          · simp [ir__law_spoilt, spoiltV, neD, okPair, revD, -decide_eq_true_eq, -decide_eq_false_iff_not, *]
          · have sa := some_at (underV v 5).2 hl
            have sm := some_mem (underV v 5).2 hl
            have k1 := clAll_mem hcl sm
            have k2 := wdAll_mem hw.2 sm
            have k3 : PyData.depth (someV (underV v 5).2 xs).1 < j := Nat.lt_of_le_of_lt (depth_mem sm) hdp
            have z1 : (cutD xs none (some (underV (underV v 5).2 xs.length).1)).length + 1 ≤ sizeLine := szl2 (by have := cut_len (xs := xs) (lo := none) (hi := some (underV (underV v 5).2 xs.length).1); omega)
            have z2 : (cutD xs none (some (underV (underV v 5).2 xs.length).1)).length + 1 + (cutD xs (some ((underV (underV v 5).2 xs.length).1 + 1)) none).length ≤ sizeLine := szl2 (by
              have := cut_len (xs := xs) (lo := none) (hi := some (underV (underV v 5).2 xs.length).1)
              have := cut_len (xs := xs) (lo := some ((underV (underV v 5).2 xs.length).1 + 1)) (hi := none)
              omega)
            simp [ir__law_spoilt, spoiltV, neD, okPair, revD, -decide_eq_true_eq, -decide_eq_false_iff_not, *]
        · simp [ir__law_spoilt, spoiltV, neD, okPair, revD, *]
      | dict kvs => simp at hcl
      | _ => dsimp only [alts] at lf; simp [ir__law_spoilt, spoiltV, *]
    · cases h
  · cases h
end K
namespace K
open PySem PySem.Spec L2 Fw
variable {Φ : FEnv}
@[simp] theorem z_emp : (Str.mk #[]) = z_ := by decide +kernel
@[simp] theorem q_dAtt0 {nm : Nat → Nat → Option D} {fa : En → EOut Ref} {e : En} : dAtt nm 0 fa e = match fa e with
  | .ok r e1 => (match r with
    | .imm d => .ok (.imm (.str z_)) e1
    | .slot _ => .bad)
  | .exc c e1 => okD (nm 0 c) e1
  | .bad => .bad := by
  unfold dAtt
  cases fa e with
  | ok r e1 => cases r <;> simp
  | exc c e1 => rfl
  | bad => rfl
theorem denSs_app {Φ : FEnv} {n : Nat} : ∀ (a b : List IS) (e : En), denSs Φ n (a ++ b) e = (denSs Φ n a e).bind (denSs Φ n b)
  | [], b, e => by simp
  | s :: a, b, e => by
    rw [List.cons_append, q_s1, q_s1]
    cases denS Φ n s e with
    | nx e1 => simp only [SOut.bind_nx]; exact denSs_app a b e1
    | _ => rfl
theorem ends_seq {Φ : FEnv} {n k : Nat} {a b : List IS} {e e1 : En} {r : Res} (h : denSs Φ n a e = .nx e1) (h2 : ends (denSs Φ n b e1) k r) : ends (denSs Φ n (a ++ b) e) k r := by
  rw [denSs_app, h]; exact h2
@[simp] def f__law_seen : List D → Option Res
  | [b, v, fs] => if isBoard b = true ∧ b.canLay0 = true ∧ v.canLay0 = true ∧ wd 1000 v = true ∧ fs.canLay0 = true then some (.ok (.bool true)) else none
  | _ => none
theorem ok__law_seen (hn : Φ.nm 0 1 = some (.str z_board_value)) (h6 : Fn Φ 6 f_is_board) (h9 : Fn Φ 9 f_are_facts) (h10 : Fn Φ 10 f_slips) (h11 : Fn Φ 11 f_counters) (h16 : Fn Φ 16 f__law_truly) (h29 : Fn Φ 29 f__law_is_board) (h30 : Fn Φ 30 f__law_is_fact) :
    ∀ args, fnP f__law_seen args ≠ .bad → ∃ j, funOf 6 3 (denSs Φ j ir__law_seen) args = fnP f__law_seen args := fnP_ok fun ds r h => by
  unfold f__law_seen at h
  split at h
  · rename_i b v fs
    split at h
    · rename_i hv
      obtain ⟨hb, hbl, hvl, hvw, hfl⟩ := hv
      cases h
      refine ⟨rfl, 0, ?_⟩
      have hok := board_ok hb
      have fin : ∀ (wd : Str), ends (denSs Φ 0 (ir__law_seen.drop 4) [some (SV.d b), some (SV.d v), some (SV.d fs), some (SV.d (.str wd)), none, none]) 3 (.ok (.bool true)) := fun wd => by
        cases fs with
        | tuple xs =>
          simp at hfl
          by_cases hl : xs.length ≤ 6
          · have hl' : ¬ (6 < (xs.length : Int)) := by omega
            have hcf : PyData.canLayAll0 (xs.filter fun d => !factOf b d) = true := cl_filter hfl
            have hcm := dComp_filter (fi := denI Φ (.seq (.var 2))) (vs := [5]) (b := setD 5) (fe := den Φ (.var 5)) (ft := den Φ (.not (.call 30 2 [.var 0, .var 5]))) (e := [some (SV.d b), some (SV.d v), some (SV.d (.tuple xs)), some (SV.d (.str wd)), none, none])
              (e1 := [some (SV.d b), some (SV.d v), some (SV.d (.tuple xs)), some (SV.d (.str wd)), none, none]) (ds := xs) (g := fun d => d) (t := fun d => !factOf b d) (by simp) rfl (szl2 (by omega))
              (fun d hd => by
                have hcd := clAll_mem hfl hd
                refine ⟨_, rfl, ?_⟩
                cases hq : factOf b d <;> simp [*]) rfl
            simp [ir__law_seen, hl', hcm, eqD, okPair, areFacts, hl, filter_isEmpty, *]
          · have hl' : 6 < (xs.length : Int) := by omega
            simp [ir__law_seen, hl', areFacts, hl, *]
        | dict kvs => simp at hfl
        | _ => simp [ir__law_seen, areFacts, *]
      show ends (denSs Φ 0 (ir__law_seen.take 4 ++ ir__law_seen.drop 4) _) _ _
      cases hv : isBoard v
      · have h4 : denSs Φ 0 (ir__law_seen.take 4) [some (SV.d b), some (SV.d v), some (SV.d fs), none, none, none] = .nx [some (SV.d b), some (SV.d v), some (SV.d fs), some (SV.d (.str z_board_value)), none, none] := by simp [ir__law_seen, *]
        exact ends_seq h4 (fin z_board_value)
      · have h4 : denSs Φ 0 (ir__law_seen.take 4) [some (SV.d b), some (SV.d v), some (SV.d fs), none, none, none] = .nx [some (SV.d b), some (SV.d v), some (SV.d fs), some (SV.d (.str z_)), none, none] := by simp [ir__law_seen, *]
        exact ends_seq h4 (fin z_)
    · cases h
  · cases h
end K
namespace K
open PySem PySem.Spec L2 Fw
/-! ### what is drawn is a board -/
theorem slipV_ok (v : Vt) : isSlip (slipV v).1 = true := by
  have h1 := under_lt v (m := 7) (by decide)
  have h2 := under_lt (underV v 7).2 (m := 4) (by decide)
  simp only [slipV, isSlip, isWhole, Bool.and_eq_true, decide_eq_true_eq]
  omega
theorem handV_ok (v : Vt) : isHand (handV v).1 = true := by
  have h1 := under_lt v (m := 4) (by decide)
  have h2 := under_lt (underV v 4).2 (m := 4) (by decide)
  have hm := some_mem (underV (underV v 4).2 4).2 (xs := [.tuple [], .tuple [], .tuple [.str z_down, .int (2 + (underV v 4).1)], .tuple [.str z_near, .int (2 + (underV (underV v 4).2 4).1)]]) (by simp)
  have e1 : anyEq [.str z_down, .str z_near] (.str z_down) = true := by simp [anyEq]
  have e2 : anyEq [.str z_down, .str z_near] (.str z_near) = true := by simp [anyEq]
  unfold handV
  simp only [List.mem_cons, List.not_mem_nil, or_false] at hm
  rcases hm with h | h | h | h <;> rw [h]
  · rfl
  · rfl
  · simp only [isHand, e1, isWhole, Bool.true_and, Bool.and_eq_true, decide_eq_true_eq]; omega
  · simp only [isHand, e2, isWhole, Bool.true_and, Bool.and_eq_true, decide_eq_true_eq]; omega
theorem counterV_ok {sub : D → Bool} (v : Vt) {hand : D} {ps : List D} (hh : isHand hand = true) (h1 : 1 ≤ ps.length) (h4 : ps.length ≤ 4) (ha : ∀ p ∈ ps, isSlip p = true ∨ sub p = true) : ctr sub (counterV v hand (.tuple ps)).1 = true := by
  have hm := some_mem v (xs := [.str z_stops, .str z_stops, .str z_turns]) (by simp)
  obtain ⟨k, hk, he⟩ : ∃ k, (someV v [.str z_stops, .str z_stops, .str z_turns]).1 = .str k ∧ anyEq [.str z_stops, .str z_turns] (.str k) = true := by
    simp only [List.mem_cons, List.not_mem_nil, or_false] at hm
    rcases hm with h | h | h
    · exact ⟨_, h, by simp [anyEq]⟩
    · exact ⟨_, h, by simp [anyEq]⟩
    · exact ⟨_, h, by simp [anyEq]⟩
  have u5 := under_lt (someV v [.str z_stops, .str z_stops, .str z_turns]).2 (m := 5) (by decide)
  have u8 := under_lt (underV (someV v [.str z_stops, .str z_stops, .str z_turns]).2 5).2 (m := 8) (by decide)
  have hall : ps.all (fun p => isSlip p || sub p) = true := List.all_eq_true.mpr fun p hp => by simpa using ha p hp
  unfold counterV
  dsimp only
  rw [hk]
  simp only [ctr, he, isWhole, hh, hall, pyMax, Bool.true_and, Bool.and_true, Bool.and_eq_true, decide_eq_true_eq]
  have hmx : (if -(underV (someV v [.str z_stops, .str z_stops, .str z_turns]).2 5).1 + 1 > 0 then -(underV (someV v [.str z_stops, .str z_stops, .str z_turns]).2 5).1 + 1 else 0) ≤ 1 := by split <;> omega
  repeat' apply And.intro
  all_goals first | omega | exact decide_eq_true (Int.le_trans hmx (by omega))
theorem innerV_ok (v : Vt) : isCounter 1 (innerV v).1 = true ∧ (slipsN 3 (innerV v).1).length ≤ 2 ∧ 1 ≤ (slipsN 3 (innerV v).1).length ∧ (ctrsN 3 (innerV v).1).length ≤ 2 := by
  have key : ∀ (w : Vt) (ps : List D), 1 ≤ ps.length → ps.length ≤ 2 → (∀ p ∈ ps, isSlip p = true ∨ isCounter 0 p = true) → (ps.flatMap (slipsN 2)).length ≤ 2 → 1 ≤ (ps.flatMap (slipsN 2)).length → (ps.flatMap (ctrsN 2)).length ≤ 1 →
      isCounter 1 (counterV (handV w).2 (handV w).1 (.tuple ps)).1 = true ∧ (slipsN 3 (counterV (handV w).2 (handV w).1 (.tuple ps)).1).length ≤ 2 ∧ 1 ≤ (slipsN 3 (counterV (handV w).2 (handV w).1 (.tuple ps)).1).length ∧ (ctrsN 3 (counterV (handV w).2 (handV w).1 (.tuple ps)).1).length ≤ 2 := fun w ps h1 h2 ha s1 s2 c1 => by
    refine ⟨?_, s1, s2, ?_⟩
    · rw [isCounter]; exact counterV_ok _ (handV_ok w) h1 (by omega) ha
    · show (_ :: ps.flatMap (ctrsN 2)).length ≤ 2
      rw [List.length_cons]; omega
  have one : ∀ w, isSlip (slipV w).1 = true ∧ slipsN 2 (slipV w).1 = [(slipV w).1] ∧ ctrsN 2 (slipV w).1 = [] := fun w => ⟨slipV_ok w, rfl, rfl⟩
  have zero : ∀ (w : Vt) (w2 : Vt), isCounter 0 (counterV w2 (handV w).1 (.tuple [(slipV (handV w).2).1])).1 = true ∧ slipsN 2 (counterV w2 (handV w).1 (.tuple [(slipV (handV w).2).1])).1 = [(slipV (handV w).2).1] ∧ (ctrsN 2 (counterV w2 (handV w).1 (.tuple [(slipV (handV w).2).1])).1).length = 1 := fun w w2 => by
    refine ⟨?_, rfl, rfl⟩
    rw [isCounter]
    exact counterV_ok _ (handV_ok w) (by simp) (by simp) fun p hp => .inl (by rw [List.mem_singleton.mp hp]; exact slipV_ok _)
  unfold innerV
  dsimp only
  cases h1 : decide ((underV (slipV v).2 3).1 = 0) with
  | true =>
    simp only [cond_true]
    obtain ⟨z1, z2, z3⟩ := zero (underV (slipV v).2 3).2 (slipV (handV (underV (slipV v).2 3).2).2).2
    obtain ⟨o1, o2, o3⟩ := one v
    refine key _ _ (by simp) (by simp) (fun p hp => ?_) ?_ ?_ ?_
    · rcases List.mem_cons.mp hp with rfl | hp
      · exact .inl o1
      · rw [List.mem_singleton.mp hp]; exact .inr z1
    · simp [o2, z2]
    · simp [o2, z2]
    · simp [o3, z3]
  | false =>
    simp only [cond_false]
    obtain ⟨o1, o2, o3⟩ := one v
    cases h2 : decide ((underV (underV (slipV v).2 3).2 2).1 = 0) with
    | true =>
      simp only [cond_true]
      obtain ⟨p1, p2, p3⟩ := one (underV (underV (slipV v).2 3).2 2).2
      refine key _ _ (by simp) (by simp) (fun p hp => ?_) ?_ ?_ ?_
      · rcases List.mem_cons.mp hp with rfl | hp
        · exact .inl o1
        · rw [List.mem_singleton.mp hp]; exact .inl p1
      · simp [o2, p2]
      · simp [o2, p2]
      · simp [o3, p3]
    | false =>
      simp only [cond_false]
      refine key _ _ (by simp) (by simp) (fun p hp => ?_) ?_ ?_ ?_
      · rw [List.mem_singleton.mp hp]; exact .inl o1
      · simp [o2]
      · simp [o2]
      · simp [o3]
end K
namespace K
open PySem PySem.Spec L2 Fw
/-- after n turns -/
structure BInv (s : BSt) (n : Nat) : Prop where
  len : s.1.length = n
  all : ∀ p ∈ s.1, isSlip p = true ∨ isCounter 1 p = true
  i0 : 0 ≤ s.2.1
  i2 : s.2.1 ≤ 2
  s1 : n ≤ (s.1.flatMap (slipsN 3)).length
  s2 : (s.1.flatMap (slipsN 3)).length ≤ 2 * n
  c : ((s.1.flatMap (ctrsN 3)).length : Int) ≤ 2 * s.2.1
theorem BInv.step {s : BSt} {n : Nat} (B : BInv s n) (d : D) : BInv (bstep s d) (n + 1) := by
  have slip : ∀ (w : Vt) (i : Int) (v : Vt) (o : Option D), i = s.2.1 → BInv (s.1 ++ [(slipV w).1], i, v, o) (n + 1) := fun w i v o hi => by
    subst hi
    have z1 : slipsN 3 (slipV w).1 = [(slipV w).1] := rfl
    have z2 : ctrsN 3 (slipV w).1 = [] := rfl
    refine ⟨by simp [B.len], fun p hp => ?_, B.i0, B.i2, ?_, ?_, ?_⟩
    · rcases List.mem_append.mp hp with hp | hp
      · exact B.all p hp
      · rw [List.mem_singleton.mp hp]; exact .inl (slipV_ok w)
    · have := B.s1; simp [z1] at this ⊢; omega
    · have := B.s2; simp [z1] at this ⊢; omega
    · have := B.c; simp [z2] at this ⊢; omega
  unfold bstep
  cases h1 : decide (s.2.1 < 2) with
  | false => exact slip _ _ _ _ rfl
  | true =>
    simp only [cond_true]
    cases h2 : decide ((underV s.2.2.1 3).1 = 0) with
    | false => exact slip _ _ _ _ rfl
    | true =>
      simp only [cond_true]
      have hlt := of_decide_eq_true h1
      obtain ⟨i1, i2, i3, i4⟩ := innerV_ok (underV s.2.2.1 3).2
      refine ⟨by simp [B.len], fun p hp => ?_, ?_, ?_, ?_, ?_, ?_⟩
      · rcases List.mem_append.mp hp with hp | hp
        · exact B.all p hp
        · rw [List.mem_singleton.mp hp]; exact .inr i1
      · have := B.i0; show 0 ≤ s.2.1 + 1; omega
      · show s.2.1 + 1 ≤ 2; omega
      · have := B.s1; simp at this ⊢; omega
      · have := B.s2; simp at this ⊢; omega
      · have := B.c; simp at this ⊢; omega
theorem BInv.fold : ∀ (ds : List D) {s : BSt} {n : Nat}, BInv s n → BInv (ds.foldl bstep s) (n + ds.length)
  | [], _, _, B => B
  | d :: ds, s, n, B => by
    have := BInv.fold ds (B.step d)
    rw [List.foldl_cons, List.length_cons, show n + (ds.length + 1) = n + 1 + ds.length by omega]
    exact this
theorem boardV_ok (v : Vt) {m : Int} (h0 : 0 < m) (h4 : m ≤ 4) : isBoard (boardV v m).1 = true := by
  obtain ⟨u0, u1⟩ := under_lt v (m := m) h0
  have B : BInv (boardS v m) (0 + (rangeD 0 (1 + (underV v m).1)).length) := BInv.fold _ (s := ([], 0, (underV v m).2, none)) { len := rfl, all := fun p hp => (by cases hp), i0 := Int.le_refl 0, i2 := (by decide : (0 : Int) ≤ 2), s1 := Nat.le_refl 0, s2 := Nat.le_refl 0, c := (by decide : (0 : Int) ≤ 2 * 0) }
  generalize hn : 0 + (rangeD 0 (1 + (underV v m).1)).length = n at B
  rw [rangeD_length] at hn
  have n1 : 1 ≤ n := by omega
  have n4 : n ≤ 4 := by omega
  have hc : isCounter 2 (boardV v m).1 = true := by
    rw [isCounter]
    exact counterV_ok _ (by rfl) (by rw [B.len]; exact n1) (by rw [B.len]; exact n4) B.all
  have e1 : slipsN 4 (boardV v m).1 = (boardS v m).1.flatMap (slipsN 3) := rfl
  have e2 : (ctrsN 4 (boardV v m).1).length = ((boardS v m).1.flatMap (ctrsN 3)).length + 1 := rfl
  have e3 : handNil (boardV v m).1 = true := rfl
  have := B.s1; have := B.s2; have := B.c; have := B.i2
  unfold isBoard
  rw [hc, e1, e2, e3]
  simp only [Bool.true_and, Bool.and_eq_true, decide_eq_true_eq]
  refine ⟨⟨by omega, by omega⟩, by push_cast; omega⟩
end K
namespace K
open PySem PySem.Spec L2 Fw
/-! ### sizes -/
structure Sz (n m : Nat) (d : D) : Prop where
  c : d.canLay0 = true
  w : wd n d = true
  d : PyData.depth d ≤ m
theorem Sz.mono {n m m' : Nat} {d : D} (h : Sz n m d) (hm : m ≤ m') : Sz n m' d := ⟨h.c, h.w, Nat.le_trans h.d hm⟩
theorem depthAll_le {m : Nat} : ∀ {ds : List D}, (∀ d ∈ ds, PyData.depth d ≤ m) → PyData.depthAll ds ≤ m
  | [], _ => Nat.zero_le _
  | d :: ds, h => by
    rw [dp_cons]
    exact Nat.max_le.mpr ⟨h d (by simp), depthAll_le fun x hx => h x (by simp [hx])⟩
theorem Sz.tup {n m : Nat} {ds : List D} (hl : ds.length ≤ n) (h : ∀ d ∈ ds, Sz n m d) : Sz n (m + 1) (.tuple ds) :=
  ⟨by rw [cl_tuple]; exact clAll_of fun d hd => (h d hd).c, by rw [wd_tuple, decide_eq_true hl, wdAll_of fun d hd => (h d hd).w]; rfl, by rw [dp_tuple]; exact Nat.succ_le_succ (depthAll_le fun d hd => (h d hd).d)⟩
theorem Sz.int {n m : Nat} (i : Int) : Sz n m (.int i) := ⟨rfl, by simp, Nat.zero_le _⟩
theorem Sz.bool {n m : Nat} (i : Bool) : Sz n m (.bool i) := ⟨rfl, by simp, Nat.zero_le _⟩
theorem Sz.none {n m : Nat} : Sz n m .none := ⟨rfl, by simp, Nat.zero_le _⟩
theorem Sz.str {n m : Nat} {s : Str} (h : PyData.canLay0 (.str s) = true) : Sz n m (.str s) := ⟨h, by simp, Nat.zero_le _⟩
theorem anyEq2 {a b s : Str} (h : anyEq [.str a, .str b] (.str s) = true) : s = a ∨ s = b := by
  simp [anyEq] at h
  rcases h with h | h
  · exact .inl h.symm
  · exact .inr h.symm
theorem slip_sz {p : D} (h : isSlip p = true) : Sz 5 1 p := by
  obtain ⟨a, b, rfl, _⟩ := isSlip_shape h
  exact Sz.tup (m := 0) (by simp) fun d hd => by
    rcases List.mem_cons.mp hd with rfl | hd
    · exact .int _
    · rw [List.mem_singleton.mp hd]; exact .int _
theorem hand_sz {p : D} (h : isHand p = true) : Sz 5 1 p := by
  unfold isHand at h
  split at h
  · exact Sz.tup (m := 0) (by simp) fun d hd => by cases hd
  · rename_i s x
    have h := and2 h
    have hs : PyData.canLay0 (.str s) = true := by rcases anyEq2 h.1 with rfl | rfl <;> simp
    have hx := h.2
    cases x <;> simp [isWhole] at hx
    exact Sz.tup (m := 0) (by simp) fun d hd => by
      rcases List.mem_cons.mp hd with rfl | hd
      · exact .str hs
      · rw [List.mem_singleton.mp hd]; exact .int _
  · cases h
theorem ctr_sz {sub : D → Bool} {p : D} {m : Nat} (hm : 1 ≤ m) (h : ctr sub p = true) (hs : ∀ q, sub q = true → Sz 5 m q) : Sz 5 (m + 2) p := by
  obtain ⟨k, lo, hi, hand, ps, S⟩ := ctr_shape h
  have e := S.eq
  subst e
  have hk : PyData.canLay0 (.str k) = true := by rcases anyEq2 S.kk with rfl | rfl <;> simp
  have hl := S.len
  refine Sz.tup (m := m + 1) (by simp) fun d hd => ?_
  simp only [List.mem_cons, List.not_mem_nil, or_false] at hd
  rcases hd with rfl | rfl | rfl | rfl | rfl
  · exact .str hk
  · exact .int _
  · exact .int _
  · exact (hand_sz S.hnd).mono (by omega)
  · exact Sz.tup (by omega) fun q hq => by
      rcases S.all q hq with h | h
      · exact (slip_sz h).mono hm
      · exact hs q h
theorem counter_sz : ∀ {n : Nat} {p : D}, isCounter n p = true → Sz 5 (2 * n + 3) p
  | 0, p, h => by rw [isCounter] at h; exact ctr_sz (m := 1) (by decide) h fun q z => nomatch z
  | n + 1, p, h => by rw [isCounter] at h; exact ctr_sz (m := 2 * n + 3) (by omega) h fun q z => counter_sz z
theorem board_sz {b : D} (h : isBoard b = true) : Sz 5 7 b := counter_sz (board_ctr h)
end K
namespace K
open PySem PySem.Spec L2 Fw
/-! ### drawn facts, spoilt values: sizes -/
theorem stRun_all {S : Type} {step : S → D → D × S} {Q : D → Prop} (h : ∀ s d, Q (step s d).1) : ∀ (s : S) (ds : List D), ∀ x ∈ (stRun step s ds).1, Q x
  | _, [], x, hx => by cases hx
  | s, d :: ds, x, hx => by
    rcases List.mem_cons.mp hx with rfl | hx
    · exact h s d
    · exact stRun_all h _ ds x hx
theorem factV_ok (v : Vt) {b : D} (hb : isBoard b = true) : factOf b (factV v b).1 = true ∧ Sz 5 1 (factV v b).1 := by
  have hs := board_slips hb
  have hc := board_ctrs hb
  obtain ⟨x, y, hx, x1, x2, x3⟩ := isSlip_shape (slips_are (board_ctr hb) _ (some_mem (underV v 3).2 (xs := slipsN 4 b) (by omega)))
  obtain ⟨kk, lo, hi, hand, ps, hq, q1, q2, q3⟩ := ctrs_are (board_ctr hb) _ (some_mem (underV v 3).2 (xs := ctrsN 4 b) (by omega))
  have us := under_lt (underV v 3).2 (m := (slipsN 4 b).length) (by omega)
  have uc := under_lt (underV v 3).2 (m := (ctrsN 4 b).length) (by omega)
  unfold factV
  dsimp only
  cases h1 : decide ((underV v 3).1 = 0) with
  | true =>
    simp only [cond_true, hx, fst0]
    have u1 := under_lt (underV (underV v 3).2 (slipsN 4 b).length).2 (m := 4) (by decide)
    have u2 := under_lt (underV (underV (underV v 3).2 (slipsN 4 b).length).2 4).2 (m := 4) (by decide)
    refine ⟨?_, Sz.tup (m := 0) (by simp) fun d hd => ?_⟩
    · have e : anyEq [.str z_shows, .str z_slip] (.str z_slip) = true := by simp [anyEq]
      simp only [factOf, isFact, many, e, isWhole, beq_self_eq_true, cond_true, Bool.and_true, Bool.and_eq_true, decide_eq_true_eq]
      omega
    · simp only [List.mem_cons, List.not_mem_nil, or_false] at hd
      rcases hd with rfl | rfl | rfl | rfl
      · exact .str (by simp)
      · exact .int _
      · exact .int _
      · exact .int _
  | false =>
    simp only [cond_false]
    cases h2 : decide ((underV v 3).1 = 1) with
    | true =>
      simp only [cond_true]
      refine ⟨?_, Sz.tup (m := 0) (by simp) fun d hd => ?_⟩
      · have e : (z_caught == z_slip) = false := by simp
        simp only [factOf, isFact, many, e, isWhole, isBoolD, beq_self_eq_true, cond_false, Bool.and_true, Bool.and_eq_true, decide_eq_true_eq]
        omega
      · simp only [List.mem_cons, List.not_mem_nil, or_false] at hd
        rcases hd with rfl | rfl | rfl
        · exact .str (by simp)
        · exact .int _
        · exact .bool _
    | false =>
      simp only [cond_false, hq, loHi]
      have u1 := under_lt (underV (underV v 3).2 (ctrsN 4 b).length).2 (m := hi - lo + 1) (by omega)
      have u2 := under_lt (underV (underV (underV v 3).2 (ctrsN 4 b).length).2 (hi - lo + 1)).2 (m := 4) (by decide)
      refine ⟨?_, Sz.tup (m := 0) (by simp) fun d hd => ?_⟩
      · have e : anyEq [.str z_shows, .str z_slip] (.str z_shows) = true := by simp [anyEq]
        have e2 : (z_shows == z_slip) = false := by simp
        simp only [factOf, isFact, many, e, e2, isWhole, cond_false, Bool.and_true, Bool.and_eq_true, decide_eq_true_eq]
        omega
      · simp only [List.mem_cons, List.not_mem_nil, or_false] at hd
        rcases hd with rfl | rfl | rfl | rfl
        · exact .str (by simp)
        · exact .int _
        · exact .int _
        · exact .int _
theorem factsV_ok (v : Vt) {b : D} (hb : isBoard b = true) {m : Int} (h0 : 0 ≤ m) (h5 : m ≤ 5) : areFacts b (factsV v b m).1 = true ∧ Sz 5 2 (factsV v b m).1 := by
  have u := under_lt v (m := m + 1) (by omega)
  have hl : (stRun (fun v _ => factV v b) (underV v (m + 1)).2 (rangeD 0 (underV v (m + 1)).1)).1.length ≤ 5 := by
    rw [stRun_length, rangeD_length]; omega
  refine ⟨?_, Sz.tup (by omega) fun d hd => ?_⟩
  · show (decide (_ ≤ 6) && List.all _ _) = true
    rw [decide_eq_true (by omega), Bool.true_and, List.all_eq_true]
    exact stRun_all (Q := fun d => factOf b d = true) (fun s d => (factV_ok s hb).1) _ _
  · exact stRun_all (step := fun v _ => factV v b) (Q := fun d => Sz 5 1 d) (fun s d => (factV_ok s hb).2) _ _ d hd
/-! what is spoilt grows by one at most -/
mutual
theorem wd_mono {n n' : Nat} (hn : n ≤ n') : ∀ (d : D), wd n d = true → wd n' d = true
  | .list xs, h => by rw [wd_list] at h ⊢; have h := and2 h; rw [wdAll_mono hn xs h.2, decide_eq_true (Nat.le_trans (of_decide_eq_true h.1) hn)]; rfl
  | .tuple xs, h => by rw [wd_tuple] at h ⊢; have h := and2 h; rw [wdAll_mono hn xs h.2, decide_eq_true (Nat.le_trans (of_decide_eq_true h.1) hn)]; rfl
  | .none, _ => by simp
  | .bool _, _ => by simp
  | .int _, _ => by simp
  | .str _, _ => by simp
  | .dict _, _ => by rw [wd] <;> (intros; exact PyData.noConfusion ‹_›)
theorem wdAll_mono {n n' : Nat} (hn : n ≤ n') : ∀ (ds : List D), wdAll n ds = true → wdAll n' ds = true
  | [], _ => rfl
  | x :: xs, h => by rw [wdAll_cons] at h ⊢; have h := and2 h; rw [wd_mono hn x h.1, wdAll_mono hn xs h.2]; rfl
end
theorem Sz.wider {n n' m : Nat} {d : D} (h : Sz n m d) (hn : n ≤ n') : Sz n' m d := ⟨h.c, wd_mono hn d h.w, h.d⟩
theorem Sz.mems {n m : Nat} {xs : List D} (h : Sz n (m + 1) (.tuple xs)) : xs.length ≤ n ∧ ∀ d ∈ xs, Sz n m d := by
  obtain ⟨c, w, d⟩ := h
  rw [cl_tuple] at c
  rw [wd_tuple] at w
  rw [dp_tuple] at d
  have w := and2 w
  exact ⟨of_decide_eq_true w.1, fun x hx => ⟨clAll_mem c hx, wdAll_mem w.2 hx, Nat.le_trans (depth_mem hx) (by omega)⟩⟩
theorem Sz.lst {n m : Nat} {ds : List D} (hl : ds.length ≤ n) (h : ∀ d ∈ ds, Sz n m d) : Sz n (m + 1) (.list ds) :=
  ⟨by rw [cl_list]; exact clAll_of fun d hd => (h d hd).c, by rw [wd_list, decide_eq_true hl, wdAll_of fun d hd => (h d hd).w]; rfl, by rw [dp_list]; exact Nat.succ_le_succ (depthAll_le fun d hd => (h d hd).d)⟩
theorem cut_mem {xs : List D} {lo hi : Option Int} {d : D} (h : d ∈ cutD xs lo hi) : d ∈ xs := List.mem_of_mem_drop (List.mem_of_mem_take h)
end K
namespace K
open PySem PySem.Spec L2 Fw
/-- what stands in a leaf's place -/
theorem alts_sz {n m : Nat} (hn : 5 ≤ n) {d : D} (h : Sz n m d) : ∀ x ∈ alts d, Sz (n + 1) (m + 1) x := by
  have tup0 : ∀ {xs : List D}, xs.length ≤ 5 → (∀ x ∈ xs, Sz (n + 1) 0 x) → Sz (n + 1) (m + 1) (.tuple xs) := fun h1 h2 => (Sz.tup (m := 0) (by omega) h2).mono (by omega)
  cases d with
  | tuple xs =>
    cases m with
    | zero => have := h.d; simp at this
    | succ m =>
      obtain ⟨hl, ha⟩ := h.mems
      have hw : ∀ d ∈ xs, Sz (n + 1) m d := fun d hd => (ha d hd).wider (by omega)
      intro x hx
      simp only [alts, List.mem_cons, List.not_mem_nil, or_false] at hx
      rcases hx with rfl | rfl | rfl | rfl | rfl | rfl
      · exact (Sz.lst (by omega) hw).mono (by omega)
      · exact (Sz.tup (by have := cut_len (xs := xs) (lo := some 1) (hi := none); omega) fun d hd => hw d (cut_mem hd)).mono (by omega)
      · refine (Sz.tup ?_ fun d hd => ?_).mono (m := m + 1) (by omega)
        · rw [List.length_append]
          have : (cutD xs (some (-1)) none).length ≤ 1 := by
            unfold cutD
            rw [List.length_take]
            simp [HT.sIx]
            omega
          omega
        · rcases List.mem_append.mp hd with hd | hd
          · exact hw d hd
          · exact hw d (cut_mem hd)
      · exact (Sz.tup (by rw [List.length_reverse]; omega) fun d hd => hw d (List.mem_reverse.mp hd)).mono (by omega)
      · exact .none
      · exact tup0 (by simp) fun x hx => by
          simp only [List.mem_cons, List.not_mem_nil, or_false] at hx
          rcases hx with rfl | rfl <;> exact .int _
  | str s =>
    intro x hx
    simp only [alts, List.mem_cons, List.not_mem_nil, or_false] at hx
    rcases hx with rfl | rfl | rfl | rfl | rfl | rfl <;> exact .str (by simp)
  | bool b =>
    intro x hx
    simp only [alts, List.mem_cons, List.not_mem_nil, or_false] at hx
    rcases hx with rfl | rfl | rfl | rfl | rfl | rfl
    · exact .bool _
    · exact .int _
    · exact .none
    · exact .str (by simp)
    · exact .int _
    · exact .bool _
  | int i =>
    intro x hx
    simp only [alts, List.mem_cons, List.not_mem_nil, or_false] at hx
    rcases hx with rfl | rfl | rfl | rfl | rfl | rfl
    · exact .int _
    · exact .int _
    · exact .int _
    · exact .bool _
    · exact .none
    · exact .int _
  | _ =>
    intro x hx
    simp only [alts, List.mem_cons, List.not_mem_nil, or_false] at hx
    rcases hx with rfl | rfl | rfl | rfl | rfl | rfl
    · exact .int _
    · exact tup0 (by simp) fun x hx => by cases hx
    · exact .str (by simp)
    · exact tup0 (by simp) fun x hx => by
        simp only [List.mem_cons, List.not_mem_nil, or_false] at hx
        rcases hx with rfl | rfl <;> exact .int _
    · exact .int _
    · exact .bool _
theorem leaf_sz {n m : Nat} (hn : 5 ≤ n) (v : Vt) {d : D} (h : Sz n m d) : Sz (n + 1) (m + 1) (leafV v d).1 := alts_sz hn h _ (some_mem v (by rw [alts_len]; decide))
theorem spoilt_sz {n : Nat} (hn : 5 ≤ n) : ∀ (j : Nat) (v : Vt) {d : D} {m : Nat}, Sz n m d → Sz (n + 1) (m + 1) (spoiltV j v d).1
  | 0, v, d, m, h => ⟨h.c, wd_mono (by omega) d h.w, Nat.le_succ_of_le h.d⟩
  | j + 1, v, d, m, h => by
    cases d with
    | tuple xs =>
      unfold spoiltV
      cases he : xs.isEmpty with
      | true => exact leaf_sz hn v h
      | false =>
        simp only [cond_false]
        cases h5 : decide (0 < (underV v 5).1) with
        | false => exact leaf_sz hn _ h
        | true =>
          simp only [cond_true]
          cases m with
          | zero => have := h.d; simp at this
          | succ m =>
            obtain ⟨hl, ha⟩ := h.mems
            have hp : 0 < xs.length := List.length_pos_iff.mpr (by intro z; rw [z] at he; cases he)
            obtain ⟨u0, u1⟩ := under_lt (underV v 5).2 (m := xs.length) (by omega)
            have hs := spoilt_sz hn j (underV (underV v 5).2 xs.length).2 (ha _ (some_mem (underV v 5).2 hp))
            have hw : ∀ d ∈ xs, Sz (n + 1) (m + 1) d := fun d hd => ((ha d hd).wider (by omega)).mono (by omega)
            generalize hu : (underV (underV v 5).2 xs.length).1 = u at *
            obtain ⟨i, rfl⟩ := Int.eq_ofNat_of_zero_le u0
            refine Sz.tup ?_ fun d hd => ?_
            · have l1 : (cutD xs none (some (i : Int))).length ≤ i := by
                unfold cutD
                rw [List.length_take]
                have z : ¬ ((i : Int) < 0) := by omega
                simp [HT.sIx, z]
                omega
              have l2 : (cutD xs (some ((i : Int) + 1)) none).length ≤ xs.length - (i + 1) := by
                unfold cutD
                rw [List.length_take, List.length_drop]
                have z : ¬ ((i : Int) + 1 < 0) := by omega
                simp [HT.sIx, z]
                omega
              simp only [List.length_append, List.length_cons, List.length_nil]
              omega
            · rcases List.mem_append.mp hd with hd | hd
              · rcases List.mem_append.mp hd with hd | hd
                · exact hw d (cut_mem hd)
                · rw [List.mem_singleton.mp hd]; exact hs
              · exact hw d (cut_mem hd)
    | _ => unfold spoiltV; exact leaf_sz hn v h
end K
namespace K
open PySem PySem.Spec L2 Fw
variable {Φ : FEnv}
@[simp] def f_law : List D → Option Res
  | [.list ss] => if (intsD ss).isSome = true ∧ ss.length ≤ 1000 then some (.ok (.bool true)) else none
  | _ => none
theorem forL_invN (P : Nat → En → Prop) {N : Nat} {b : D → En → Option En} {f : En → SOut} : ∀ {ds : List D} {e : En} {n : Nat}, (∀ d ∈ ds, ∀ n e, n < N → P n e → ∃ e1, b d e = some e1 ∧ ∃ e2, f e1 = .nx e2 ∧ P (n + 1) e2) → n + ds.length ≤ N → P n e → ∃ e', forL b f ds e = .nx e' ∧ P (n + ds.length) e'
  | [], e, n, _, _, p => ⟨e, rfl, p⟩
  | d :: ds, e, n, h, hN, p => by
    rw [List.length_cons] at hN
    obtain ⟨e1, h1, e2, h2, p2⟩ := h d (by simp) n e (by omega) p
    obtain ⟨e', h3, p'⟩ := forL_invN P (ds := ds) (n := n + 1) (fun d hd => h d (by simp [hd])) (by omega) p2
    refine ⟨e', ?_, ?_⟩
    · rw [q_for1, h1, optS_some, h2]
      exact h3
    · rw [List.length_cons, show n + (ds.length + 1) = n + 1 + ds.length by omega]; exact p'
theorem Sz.board {b : D} (h : isBoard b = true) (n : Nat) : Sz (5 + n) (7 + n) b := ((board_sz h).wider (by omega)).mono (by omega)
/-- what the inner loop keeps -/
def LInv2 (ss : List D) (k : D) (bd : D) (n : Nat) (e : En) : Prop := ∃ (v : Vt) (x y : D) (g : Option D), e = [some (SV.d (.list ss)), some (SV.d k), some (.own false (Vt.l v)), some (.d bd), some (.d x), some (.d y), g.map SV.d] ∧ Sz (5 + n) (7 + n) x ∧ Sz (5 + n) (7 + n) y
/-- what the outer loop keeps -/
def LInv (ss : List D) (e : En) : Prop := e = [some (SV.d (.list ss)), none, none, none, none, none, none] ∨ ∃ k bd n, LInv2 ss k bd n e
theorem mem_range {lo hi : Int} {d : D} (h : d ∈ rangeD lo hi) : ∃ i, d = .int i ∧ lo ≤ i ∧ i < hi := by
  simp [rangeD] at h
  obtain ⟨a, ha, rfl⟩ := h
  exact ⟨_, rfl, by omega, by omega⟩
def lawIn : List IS := [.par [4, 5] [.v (.call 31 2 [.peek 2, .ite (.cmp .Eq (.bin .Mod (.var 6) (.cst (.int 3))) (.cst (.int 0))) (.var 3) (.var 4)]), .v (.call 31 2 [.peek 2, .var 5])], .ifs (.not (.call 34 3 [.var 3, .var 4, .var 5])) [.ret (.cst (.bool false))] []]
theorem law_in (h31 : FnV Φ 31 (f__law_spoilt 30)) (h34 : Fn Φ 34 f__law_seen) {ss : List D} {k : D} {bd : D} (hb : isBoard bd = true) : ∀ d ∈ rangeD 0 12, ∀ n e, n < 12 → LInv2 ss k bd n e → ∃ e1, setD 6 d e = some e1 ∧ ∃ e2, denSs Φ 0 lawIn e1 = .nx e2 ∧ LInv2 ss k bd (n + 1) e2 := by
  intro d hd n e hn ⟨⟨v1, v2⟩, x, y, g, he, hx, hy⟩
  obtain ⟨i, rfl, _⟩ := mem_range hd
  subst he
  refine ⟨[some (SV.d (.list ss)), some (SV.d k), some (.own false [.int v1, .int v2]), some (.d bd), some (.d x), some (.d y), some (.d (.int i))], by cases g <;> rfl, ?_⟩
  have hb' := Sz.board hb n
  have key : ∀ (z : D), Sz (5 + n) (7 + n) z → ∃ z1 a b y1 c d, f__law_spoilt 30 (v1, v2) [z] = some (z1, (a, b)) ∧ f__law_spoilt 30 (a, b) [y] = some (y1, (c, d)) ∧ f__law_seen [bd, z1, y1] = some (.ok (.bool true)) ∧ Sz (5 + (n + 1)) (7 + (n + 1)) z1 ∧ Sz (5 + (n + 1)) (7 + (n + 1)) y1 := by
    intro z hz
    have a1 := spoilt_sz (by omega) 30 (v1, v2) hz
    have sp : ∀ (w : Vt) {z : D}, Sz (5 + n) (7 + n) z → f__law_spoilt 30 w [z] = some (spoiltV 30 w z) := fun w z hz => if_pos ⟨by have := hz.d; omega, hz.c, wd_mono (by omega) z hz.w⟩
    rcases h1 : spoiltV 30 (v1, v2) z with ⟨z1, a, b⟩
    rw [h1] at a1
    have a2 := spoilt_sz (by omega) 30 (a, b) hy
    rcases h2 : spoiltV 30 (a, b) y with ⟨y1, c, d⟩
    rw [h2] at a2
    refine ⟨z1, a, b, y1, c, d, by rw [sp _ hz, h1], by rw [sp _ hy, h2], if_pos ⟨hb, hb'.c, a1.c, wd_mono (by omega) z1 a1.w, a2.c⟩, ?_, ?_⟩
    · rw [show 5 + (n + 1) = 5 + n + 1 by omega, show 7 + (n + 1) = 7 + n + 1 by omega]; exact a1
    · rw [show 5 + (n + 1) = 5 + n + 1 by omega, show 7 + (n + 1) = 7 + n + 1 by omega]; exact a2
  cases h3 : decide (i % 3 = 0)
  · obtain ⟨z1, a, b, y1, c, d, k1, k2, k3, s1, s2⟩ := key x hx
    refine ⟨[some (SV.d (.list ss)), some (SV.d k), some (.own false [.int c, .int d]), some (.d bd), some (.d z1), some (.d y1), some (.d (.int i))], ?_, (c, d), z1, y1, some (.int i), rfl, s1, s2⟩
    simp [lawIn, -f__law_spoilt, -f__law_seen, -decide_eq_true_eq, -decide_eq_false_iff_not, *]
  · obtain ⟨z1, a, b, y1, c, d, k1, k2, k3, s1, s2⟩ := key bd hb'
    refine ⟨[some (SV.d (.list ss)), some (SV.d k), some (.own false [.int c, .int d]), some (.d bd), some (.d z1), some (.d y1), some (.d (.int i))], ?_, (c, d), z1, y1, some (.int i), rfl, s1, s2⟩
    simp [lawIn, -f__law_spoilt, -f__law_seen, -decide_eq_true_eq, -decide_eq_false_iff_not, *]
theorem law_in_all (h31 : FnV Φ 31 (f__law_spoilt 30)) (h34 : Fn Φ 34 f__law_seen) {ss : List D} {k : D} {bd : D} (hb : isBoard bd = true) {e : En} (he : LInv2 ss k bd 0 e) : ∃ e', forL (setD 6) (denSs Φ 0 lawIn) (rangeD 0 12) e = .nx e' ∧ LInv ss e' := by
  obtain ⟨e', h1, h2⟩ := forL_invN (LInv2 ss k bd) (N := 12) (ds := rangeD 0 12) (n := 0) (e := e) (law_in h31 h34 hb) (by decide) he
  exact ⟨e', h1, .inr ⟨_, _, _, h2⟩⟩
def lawOut : List IS := [.setF 2 (.call 12 2 [.var 0, .var 1]), .asg (.name 3) (.call 21 2 [.peek 2, .cst (.int 3)]), .ifs (.or (.cmp .NotEq (.call 10 1 [.var 3]) (.call 22 1 [.var 3])) (.or (.cmp .NotEq (.call 11 1 [.var 3]) (.call 23 1 [.var 3])) (.cmp .IsNot (.call 6 1 [.var 3]) (.cst (.bool true))))) [.ret (.cst (.bool false))] [], .par [4, 5] [.v (.var 3), .v (.call 25 3 [.peek 2, .var 3, .cst (.int 4)])], .ifs (.cmp .IsNot (.call 9 2 [.var 3, .var 5]) (.cst (.bool true))) [.ret (.cst (.bool false))] [], .for_ (.name 6) (.rng1 (.cst (.int 12))) lawIn]
mutual
theorem eqv_reflD : ∀ d : D, d.canLay0 = true → PyData.eqv d d = true
  | .none, _ => rfl
  | .bool b, _ => by simp
  | .int i, _ => by simp
  | .str s, _ => by simp
  | .list xs, h => by rw [eqv_list]; exact eqv_reflAll xs (by simpa using h)
  | .tuple xs, h => by rw [eqv_tuple]; exact eqv_reflAll xs (by simpa using h)
  | .dict kv, h => by simp at h
theorem eqv_reflAll : ∀ ds : List D, PyData.canLayAll0 ds = true → PyData.eqvAll ds ds = true
  | [], _ => rfl
  | x :: xs, h => by
    rw [cl_cons] at h
    have h := and2 h
    rw [PyData.eqvAll, eqv_reflD x h.1, eqv_reflAll xs h.2]; rfl
end
theorem neD_self {d : D} {n m : Nat} (h : Sz n m d) (hm : m ≤ 64) : neD d d = some (.bool false) := by
  have e : PyData.eqv d d = true := eqv_reflD d h.c
  have hd := h.d
  have h1 : d.depth ≤ 64 := by omega
  simp [neD, okPair, h.c, e, h1]
theorem ctrs_sz {b : D} (h : isBoard b = true) : ∀ s ∈ ctrsN 4 b, Sz 5 7 s := by
  have key : ∀ (k : Nat) {p : D}, isCounter k p = true → ∀ s ∈ ctrsN (k + 2) p, Sz 5 (2 * k + 3) s := by
    intro k
    induction k with
    | zero =>
      intro p h s hs
      have hz := counter_sz h
      rw [isCounter] at h
      obtain ⟨kk, lo, hi, hand, ps, S⟩ := ctr_shape h
      rw [S.eq] at hs hz
      rcases List.mem_cons.mp (show s ∈ _ :: ps.flatMap (ctrsN 1) from hs) with rfl | hs
      · exact hz
      · obtain ⟨q, hq, hs⟩ := List.mem_flatMap.mp hs
        rcases S.all q hq with h | h
        · obtain ⟨a, b, rfl, _⟩ := isSlip_shape h
          cases hs
        · cases h
    | succ k ih =>
      intro p h s hs
      have hz := counter_sz h
      rw [isCounter] at h
      obtain ⟨kk, lo, hi, hand, ps, S⟩ := ctr_shape h
      rw [S.eq] at hs hz
      rcases List.mem_cons.mp (show s ∈ _ :: ps.flatMap (ctrsN (k + 2)) from hs) with rfl | hs
      · exact hz
      · obtain ⟨q, hq, hs⟩ := List.mem_flatMap.mp hs
        rcases S.all q hq with h | h
        · obtain ⟨a, b, rfl, _⟩ := isSlip_shape h
          cases hs
        · exact (ih h s hs).mono (by omega)
  exact key 2 (board_ctr h)
theorem flat_le8 {ps : List D} (h : ps.length ≤ 1000) : ps.length ≤ sizeLine := szl2 (by omega)
theorem law_out (h6 : Fn Φ 6 f_is_board) (h9 : Fn Φ 9 f_are_facts) (h10 : Fn Φ 10 f_slips) (h11 : Fn Φ 11 f_counters) (h12 : Φ.fn 12 = fnO f__law_vat) (h21 : FnV Φ 21 f__law_board) (h22 : Fn Φ 22 (f__law_slips 4)) (h23 : Fn Φ 23 (f__law_counters 4))
    (h25 : FnV Φ 25 f__law_facts) (h31 : FnV Φ 31 (f__law_spoilt 30)) (h34 : Fn Φ 34 f__law_seen) {ss : List D} {ns : List Int} (hn : intsD ss = some ns) {hh : Int} : ∀ d ∈ rangeD 0 hh, ∀ e, LInv ss e → ∃ e1, setD 1 d e = some e1 ∧ ∃ e2, (denSs Φ 0 lawOut e1 = .nx e2 ∨ denSs Φ 0 lawOut e1 = .ct e2) ∧ LInv ss e2 := by
  intro d hd e he
  obtain ⟨i, rfl, hi, _⟩ := mem_range hd
  have main : ∀ (a c x y : Option D) (b : Option (List D)), ∃ e2, denSs Φ 0 lawOut [some (SV.d (.list ss)), some (.d (.int i)), b.map (SV.own false), a.map SV.d, c.map SV.d, x.map SV.d, y.map SV.d] = .nx e2 ∧ LInv ss e2 := by
    intro a c x y b
    rcases hv : vatOf ns i with ⟨v1, v2⟩
    rcases hw : boardV (v1, v2) 3 with ⟨bd, w1, w2⟩
    have hb : isBoard bd = true := by have := boardV_ok (v1, v2) (m := 3) (by decide) (by decide); rw [hw] at this; exact this
    have hok := board_ok hb
    have hbs := board_sz hb
    have hbc := hbs.c
    rcases hf : factsV (w1, w2) bd 4 with ⟨fs, u1, u2⟩
    have hfs := factsV_ok (w1, w2) hb (m := 4) (by decide) (by decide)
    rw [hf] at hfs
    obtain ⟨hfs, hfz⟩ := hfs
    have hfc := hfz.c
    have n1 : neD (.list (slipsN 4 bd)) (.list (slipsN 4 bd)) = some (.bool false) := neD_self (n := 10) (m := 2) (Sz.lst (by have := board_slips hb; omega) fun s hs => (slip_sz (slips_are (board_ctr hb) s hs)).wider (by omega)) (by omega)
    have n2 : neD (.list (ctrsN 4 bd)) (.list (ctrsN 4 bd)) = some (.bool false) := neD_self (n := 10) (m := 8) (Sz.lst (by have := board_ctrs hb; omega) fun s hs => (ctrs_sz hb s hs).wider (by omega)) (by omega)
    obtain ⟨e2, h1, h2⟩ := law_in_all h31 h34 hb (ss := ss) (k := .int i) (e := [some (SV.d (.list ss)), some (SV.d (.int i)), some (.own false [.int u1, .int u2]), some (.d bd), some (.d bd), some (.d fs), y.map SV.d]) ⟨(u1, u2), bd, fs, y, rfl, Sz.board hb 0, (hfz.mono (by omega)).wider (by omega)⟩
    refine ⟨e2, ?_, h2⟩
    cases b <;> cases a <;> cases c <;> cases x
    all_goals simp [lawOut, *]
  rcases he with he | ⟨k, bd, n, v, x, y, g, he, _, _⟩
  · subst he
    obtain ⟨e2, h1, h2⟩ := main none none none none none
    exact ⟨_, rfl, e2, .inl h1, h2⟩
  · subst he
    obtain ⟨e2, h1, h2⟩ := main (some bd) (some x) (some y) g (some (Vt.l v))
    exact ⟨_, rfl, e2, .inl h1, h2⟩
theorem ok_law (h6 : Fn Φ 6 f_is_board) (h9 : Fn Φ 9 f_are_facts) (h10 : Fn Φ 10 f_slips) (h11 : Fn Φ 11 f_counters) (h12 : Φ.fn 12 = fnO f__law_vat) (h21 : FnV Φ 21 f__law_board) (h22 : Fn Φ 22 (f__law_slips 4)) (h23 : Fn Φ 23 (f__law_counters 4))
    (h25 : FnV Φ 25 f__law_facts) (h31 : FnV Φ 31 (f__law_spoilt 30)) (h34 : Fn Φ 34 f__law_seen) (h35 : Φ.fn 35 [] = .ret (.d (.bool true)) []) :
    ∀ args, fnP f_law args ≠ .bad → ∃ j, funOf 7 1 (denSs Φ j ir_law) args = fnP f_law args := fnP_ok fun ds r h => by
  unfold f_law at h
  split at h
  · rename_i ss
    split at h
    · rename_i hv
      obtain ⟨hi, hl⟩ := hv
      obtain ⟨ns, hn⟩ := Option.isSome_iff_exists.mp hi
      cases h
      refine ⟨rfl, 0, ?_⟩
      have e0 : ir_law = [.for_ (.name 1) (.rng1 (.prim .max [.cst (.int 4), .prim .min [.cst (.int 9), .prim .len [.var 0]]])) lawOut, .ret (.call0 35)] := rfl
      have hm : ∃ hh, denI Φ (.rng1 (.prim .max [.cst (.int 4), .prim .min [.cst (.int 9), .prim .len [.var 0]]])) [some (SV.d (.list ss)), none, none, none, none, none, none] = .ok (rangeD 0 hh) [some (SV.d (.list ss)), none, none, none, none, none, none] := by
        refine ⟨pyMax 4 (if (ss.length : Int) < 9 then ss.length else 9), ?_⟩
        have b1 : pyMax 4 (if (ss.length : Int) < 9 then ss.length else 9) ≤ 9 := by unfold pyMax; split <;> split <;> omega
        have b2 : 4 ≤ pyMax 4 (if (ss.length : Int) < 9 then ss.length else 9) := by unfold pyMax; split <;> split <;> omega
        generalize hg : pyMax 4 (if (ss.length : Int) < 9 then ss.length else 9) = hh at b1 b2
        have b3 : -4611686018427387904 ≤ hh := by omega
        have b4 : hh < 4611686018427387904 := by omega
        have hg2 := hg
        unfold pyMax at hg2
        simp [maxD, minD, *]
      obtain ⟨hh, hr⟩ := hm
      obtain ⟨e', h1, h2⟩ := forL_inv (LInv ss) (ds := rangeD 0 hh) (law_out h6 h9 h10 h11 h12 h21 h22 h23 h25 h31 h34 hn) (.inl rfl)
      rw [e0]
      rcases h2 with h2 | ⟨k, bd, n, v, x, y, g, h2, _, _⟩
      · subst h2
        simp [hr, h1, h35]
      · subst h2
        simp [hr, h1, h35]
    · cases h
  · cases h
end K
namespace K
open PySem PySem.Spec L2 Fw
/-! ### no level: worth nothing -/
theorem nil_is_counter : ∀ ds, f_is_counter 0 ds = none := fun ds => by
  unfold f_is_counter
  split
  · exact if_neg (by intro h; omega)
  · rfl
theorem nil_slips_of : ∀ ds, f_slips_of 0 ds = none := fun ds => by
  unfold f_slips_of
  split
  · exact if_neg (by simp [okPart])
  · rfl
theorem nil_counters_of : ∀ ds, f_counters_of 0 ds = none := fun ds => by
  unfold f_counters_of
  split
  · exact if_neg (by simp [okPart])
  · rfl
theorem nil__law_slips : ∀ ds, f__law_slips 0 ds = none := fun ds => by
  unfold f__law_slips
  split
  · exact if_neg (by simp [okPart])
  · rfl
theorem nil__law_counters : ∀ ds, f__law_counters 0 ds = none := fun ds => by
  unfold f__law_counters
  split
  · exact if_neg (by simp [okPart])
  · rfl
theorem nil__law_is_counter : ∀ ds, f__law_is_counter 0 ds = none := fun ds => by
  unfold f__law_is_counter
  split
  · exact if_neg (by intro h; omega)
  · rfl
theorem nil__law_spoilt : ∀ v ds, f__law_spoilt 0 v ds = none := fun v ds => by
  unfold f__law_spoilt
  split
  · exact if_neg (by intro h; omega)
  · rfl
theorem law_true {ns : List Int} (h : ns.length ≤ 63) : fnP f_law [.d (.list (ns.map PyData.int))] = .ret (.d (.bool true)) [[]] := by
  have h2 : ns.length ≤ 1000 := by omega
  simp [intsD_map, h2]
end K
namespace K
open PySem PySem.Spec L2 Fw
/-! ### boards as typed trees -/
inductive Hd where
  | no
  | mk (near : Bool) (u : Int)
inductive Pt where
  | slip (l h : Int)
  | ctr (tu : Bool) (lo hi : Int) (hd : Hd) (ps : List Pt)
def kindS (t : Bool) : Str := bif t then z_turns else z_stops
def handS (t : Bool) : Str := bif t then z_near else z_down
def Hd.D : Hd → D
  | .no => .tuple []
  | .mk n u => .tuple [.str (handS n), .int u]
mutual
def Pt.D : Pt → D
  | .slip l h => .tuple [.int l, .int h]
  | .ctr t lo hi hd ps => .tuple [.str (kindS t), .int lo, .int hi, hd.D, .tuple (Pt.Ds ps)]
def Pt.Ds : List Pt → List D
  | [] => []
  | p :: ps => p.D :: Pt.Ds ps
end
theorem Ds_map : ∀ ps : List Pt, Pt.Ds ps = ps.map Pt.D
  | [] => by rw [Pt.Ds]; rfl
  | p :: ps => by rw [Pt.Ds, Ds_map ps]; rfl
@[simp] theorem D_slip {l h : Int} : (Pt.slip l h).D = .tuple [.int l, .int h] := by rw [Pt.D]
@[simp] theorem D_ctr {t : Bool} {lo hi : Int} {hd : Hd} {ps : List Pt} : (Pt.ctr t lo hi hd ps).D = .tuple [.str (kindS t), .int lo, .int hi, hd.D, .tuple (ps.map Pt.D)] := by rw [Pt.D, Ds_map]
/-! the slips -/
mutual
def slips : Pt → List (Int × Int)
  | .slip l h => [(l, h)]
  | .ctr _ _ _ _ ps => slipsL ps
def slipsL : List Pt → List (Int × Int)
  | [] => []
  | p :: ps => slips p ++ slipsL ps
end
mutual
def ctrs : Pt → List Pt
  | .slip _ _ => []
  | .ctr t lo hi hd ps => .ctr t lo hi hd ps :: ctrsL ps
def ctrsL : List Pt → List Pt
  | [] => []
  | p :: ps => ctrs p ++ ctrsL ps
end
@[simp] theorem slips_s {l h : Int} : slips (.slip l h) = [(l, h)] := by rw [slips]
@[simp] theorem slips_c {t : Bool} {lo hi : Int} {hd : Hd} {ps : List Pt} : slips (.ctr t lo hi hd ps) = slipsL ps := by rw [slips]
@[simp] theorem slipsL_n : slipsL [] = [] := by rw [slipsL]
@[simp] theorem slipsL_c {p : Pt} {ps : List Pt} : slipsL (p :: ps) = slips p ++ slipsL ps := by rw [slipsL]
@[simp] theorem ctrs_s {l h : Int} : ctrs (.slip l h) = [] := by rw [ctrs]
@[simp] theorem ctrs_c {t : Bool} {lo hi : Int} {hd : Hd} {ps : List Pt} : ctrs (.ctr t lo hi hd ps) = .ctr t lo hi hd ps :: ctrsL ps := by rw [ctrs]
@[simp] theorem ctrsL_n : ctrsL [] = [] := by rw [ctrsL]
@[simp] theorem ctrsL_c {p : Pt} {ps : List Pt} : ctrsL (p :: ps) = ctrs p ++ ctrsL ps := by rw [ctrsL]
def slD2 (s : Int × Int) : D := .tuple [.int s.1, .int s.2]
/-! ### well made -/
def Hd.ok : Hd → Prop
  | .no => True
  | .mk _ u => 2 ≤ u ∧ u ≤ 10
structure CtrOk (lo hi : Int) (hd : Hd) (n : Nat) : Prop where
  l : -99 ≤ lo ∧ lo ≤ 0
  h : 0 ≤ hi ∧ lo + 1 ≤ hi ∧ hi ≤ 99
  hd : hd.ok
  n : 1 ≤ n ∧ n ≤ 4
/-- a part, with at most n counters within each other -/
def PtOk : Nat → Pt → Prop
  | _, .slip l h => -20 ≤ l ∧ l ≤ h ∧ h ≤ 20
  | 0, .ctr .. => False
  | n + 1, .ctr _ lo hi hd ps => CtrOk lo hi hd ps.length ∧ ∀ p ∈ ps, PtOk n p
structure BdOk (p : Pt) : Prop where
  ok : PtOk 3 p
  top : ∃ t lo hi ps, p = .ctr t lo hi .no ps
  s : 1 ≤ (slips p).length ∧ (slips p).length ≤ 8
  c : (ctrs p).length ≤ 6
theorem slip_typed {d : D} (h : isSlip d = true) : ∃ l h, d = (Pt.slip l h).D ∧ -20 ≤ l ∧ l ≤ h ∧ h ≤ 20 := by
  obtain ⟨a, b, rfl, h1, h2, h3⟩ := isSlip_shape h
  exact ⟨a, b, by simp, h1, h2, h3⟩
theorem hand_typed {d : D} (h : isHand d = true) : ∃ hd : Hd, d = hd.D ∧ hd.ok := by
  unfold isHand at h
  split at h
  · exact ⟨.no, rfl, trivial⟩
  · rename_i s x
    have h := and2 h
    have hx := h.2
    cases x <;> simp [isWhole] at hx
    rcases anyEq2 h.1 with rfl | rfl
    · exact ⟨.mk false _, rfl, hx⟩
    · exact ⟨.mk true _, rfl, hx⟩
  · cases h
theorem list_typed {P : Pt → Prop} : ∀ {ds : List D}, (∀ d ∈ ds, ∃ p : Pt, d = p.D ∧ P p) → ∃ ps : List Pt, ds = ps.map Pt.D ∧ ∀ p ∈ ps, P p
  | [], _ => ⟨[], rfl, fun p hp => nomatch hp⟩
  | d :: ds, h => by
    obtain ⟨p, rfl, hp⟩ := h d (by simp)
    obtain ⟨ps, rfl, hps⟩ := list_typed (ds := ds) fun x hx => h x (by simp [hx])
    refine ⟨p :: ps, rfl, fun q hq => ?_⟩
    rcases List.mem_cons.mp hq with rfl | hq
    · exact hp
    · exact hps q hq
theorem ctr_typed {sub : D → Bool} {d : D} {n : Nat} (h : ctr sub d = true) (hs : ∀ q, sub q = true → ∃ p : Pt, q = p.D ∧ PtOk n p) : ∃ p : Pt, d = p.D ∧ PtOk (n + 1) p ∧ ∃ t lo hi hd ps, p = .ctr t lo hi hd ps := by
  obtain ⟨k, lo, hi, hand, ps, S⟩ := ctr_shape h
  obtain ⟨hd, rfl, hok⟩ := hand_typed S.hnd
  obtain ⟨qs, rfl, hq⟩ := list_typed (P := PtOk n) (ds := ps) fun d hd => by
    rcases S.all d hd with h | h
    · obtain ⟨l, h, rfl, h1⟩ := slip_typed h
      exact ⟨_, rfl, by cases n <;> exact h1⟩
    · exact hs d h
  have hl := S.len
  rw [List.length_map] at hl
  have mk : ∀ t, k = kindS t → ∃ p : Pt, d = p.D ∧ PtOk (n + 1) p ∧ ∃ t lo hi hd ps, p = .ctr t lo hi hd ps := fun t ht => ⟨.ctr t lo hi hd qs, by rw [S.eq, ht]; simp, ⟨⟨S.l, S.h, hok, hl⟩, hq⟩, _, _, _, _, _, rfl⟩
  rcases anyEq2 S.kk with rfl | rfl
  · exact mk false rfl
  · exact mk true rfl
theorem counter_typed : ∀ {n : Nat} {d : D}, isCounter n d = true → ∃ p : Pt, d = p.D ∧ PtOk (n + 1) p ∧ ∃ t lo hi hd ps, p = .ctr t lo hi hd ps
  | 0, d, h => by rw [isCounter] at h; exact ctr_typed h fun q z => nomatch z
  | n + 1, d, h => by
    rw [isCounter] at h
    exact ctr_typed h fun q z => let ⟨p, h1, h2, _⟩ := counter_typed z; ⟨p, h1, h2⟩
theorem slipsN_typed : ∀ {n : Nat} {p : Pt}, PtOk n p → slipsN (n + 1) p.D = (slips p).map slD2
  | _, .slip l h, _ => by rw [D_slip, slips_s]; rfl
  | 0, .ctr .., h => h.elim
  | n + 1, .ctr t lo hi hd ps, h => by
    rw [D_ctr, slips_c]
    show (ps.map Pt.D).flatMap (slipsN (n + 1)) = _
    have h2 := h.2
    clear h
    induction ps with
    | nil => simp
    | cons p ps ih =>
      rw [List.map_cons, List.flatMap_cons, slipsL_c, List.map_append, slipsN_typed (h2 p (by simp)), ih fun q hq => h2 q (by simp [hq])]
theorem ctrsN_typed : ∀ {n : Nat} {p : Pt}, PtOk n p → ctrsN (n + 1) p.D = (ctrs p).map Pt.D
  | _, .slip l h, _ => by rw [D_slip, ctrs_s]; rfl
  | 0, .ctr .., h => h.elim
  | n + 1, .ctr t lo hi hd ps, h => by
    rw [D_ctr, ctrs_c, List.map_cons, D_ctr]
    show _ :: (ps.map Pt.D).flatMap (ctrsN (n + 1)) = _
    congr 1
    have h2 := h.2
    clear h
    induction ps with
    | nil => simp
    | cons p ps ih =>
      rw [List.map_cons, List.flatMap_cons, ctrsL_c, List.map_append, ctrsN_typed (h2 p (by simp)), ih fun q hq => h2 q (by simp [hq])]
theorem board_typed {b : D} (h : isBoard b = true) : ∃ p : Pt, b = p.D ∧ BdOk p := by
  have hc := board_ctr h
  have hs := board_slips h
  have hn := board_ctrs h
  obtain ⟨p, rfl, hp, t, lo, hi, hd, ps, rfl⟩ := counter_typed hc
  rw [slipsN_typed hp, List.length_map] at hs
  rw [ctrsN_typed hp, List.length_map] at hn
  have hh : handNil (Pt.ctr t lo hi hd ps).D = true := by
    unfold isBoard at h
    exact (and2 (and2 (and2 (and2 h).1).1).1).2
  refine ⟨_, rfl, hp, ?_, hs, hn.2⟩
  cases hd with
  | no => exact ⟨t, lo, hi, ps, rfl⟩
  | mk n u => rw [D_ctr] at hh; simp [handNil, Hd.D, PyData.eqvAll] at hh
end K
namespace Fw
open PySem PySem.Spec
@[simp] theorem iZip_def {fa fb : En → EOut Ref} {e : En} : Fw.iZip fa fb e = (fa e).bind fun r e1 => (fb e1).bind fun r2 e2 => match r, r2 with
  | .imm (.list xs), .imm (.list ys) => .ok ((xs.zip ys).map fun p => .tuple [p.1, p.2]) e2
  | .imm (.tuple xs), .imm (.tuple ys) => .ok ((xs.zip ys).map fun p => .tuple [p.1, p.2]) e2
  | _, _ => .bad := rfl
@[simp] theorem iEnum_def {fa : En → EOut Ref} {e : En} : Fw.iEnum fa e = (fa e).bind fun r e1 => match r with
  | .imm (.list ds) => .ok (enumD ds) e1
  | _ => .bad := rfl
theorem compL_A {α : Type} {enc : α → D} {vs : List Nat} {b : D → En → Option En} {ft : Option (En → EOut Ref)} {fe : En → EOut Ref} {e : En} {t : α → Bool} {g : α → D} : ∀ {as : List α} {acc : List D},
    (∀ a ∈ as, ∃ e1, b (enc a) e = some e1 ∧ ∃ e2, tests ft e1 = .ok (t a) e2 ∧ wipeE e2 vs = e ∧ (t a = true → ∃ e3, fe e2 = .ok (.imm (g a)) e3 ∧ wipeE e3 vs = e)) → acc.length + as.length ≤ sizeLine →
    compL vs b ft fe (as.map enc) acc e = .ok (acc ++ (as.filter t).map g) e
  | [], acc, _, _ => by simp [compL]
  | d :: ds, acc, h, hl => by
    obtain ⟨e1, h1, e2, h2, h3, h4⟩ := h d (by simp)
    simp only [List.length_cons] at hl
    rw [List.map_cons, compL, h1]
    dsimp only
    rw [h2]
    cases q : t d with
    | false =>
      simp only [EOut.bind_ok, cond_false]
      rw [h3, compL_A (as := ds) (fun d hd => h d (by simp [hd])) (by omega)]
      simp [q]
    | true =>
      obtain ⟨e3, h5, h6⟩ := h4 q
      simp only [EOut.bind_ok, cond_true]
      rw [h5]
      simp only [noX, EOut.bind_ok]
      rw [if_pos (by omega), h6, compL_A (as := ds) (fun d hd => h d (by simp [hd])) (by simp; omega)]
      simp [q]
/-- a comprehension over encoded things -/
theorem dComp_A {α : Type} (enc : α → D) (as : List α) (t : α → Bool) (g : α → D) {fi : En → EOut (List D)} {vs : List Nat} {b : D → En → Option En} {ft : Option (En → EOut Ref)} {fe : En → EOut Ref} {e e1 : En} (hi : fi e = .ok (as.map enc) e1) (hn : noOwn e1 vs = true) (hl : as.length ≤ sizeLine)
    (h : ∀ a ∈ as, ∃ e2, b (enc a) (wipeE e1 vs) = some e2 ∧ ∃ e3, tests ft e2 = .ok (t a) e3 ∧ wipeE e3 vs = wipeE e1 vs ∧ (t a = true → ∃ e4, fe e3 = .ok (.imm (g a)) e4 ∧ wipeE e4 vs = wipeE e1 vs)) (hu : unwipe e1 (wipeE e1 vs) vs = e1) :
    dComp fi vs b ft fe e = .ok (.imm (.list ((as.filter t).map g))) e1 := by
  unfold dComp
  rw [hi]
  simp only [EOut.bind_ok]
  rw [if_pos hn, compL_A (t := t) (g := g) (fun a ha => h a ha) (by simpa using hl)]
  simp [hu]
theorem dComp_M {α : Type} (enc : α → D) (as : List α) (g : α → D) {fi : En → EOut (List D)} {vs : List Nat} {b : D → En → Option En} {fe : En → EOut Ref} {e e1 : En} (hi : fi e = .ok (as.map enc) e1) (hn : noOwn e1 vs = true) (hl : as.length ≤ sizeLine)
    (h : ∀ a ∈ as, ∃ e2, b (enc a) (wipeE e1 vs) = some e2 ∧ ∃ e4, fe e2 = .ok (.imm (g a)) e4 ∧ wipeE e2 vs = wipeE e1 vs ∧ wipeE e4 vs = wipeE e1 vs) (hu : unwipe e1 (wipeE e1 vs) vs = e1) :
    dComp fi vs b none fe e = .ok (.imm (.list (as.map g))) e1 := by
  have := dComp_A enc as (fun _ => true) g (ft := none) hi hn hl (fun a ha => by
    obtain ⟨e2, h1, e4, h2, h3, h4⟩ := h a ha
    exact ⟨e2, h1, e2, rfl, h3, fun _ => ⟨e4, h2, h4⟩⟩) hu
  rw [this, List.filter_eq_self.mpr fun _ _ => rfl]
end Fw
namespace K
open PySem PySem.Spec L2 Fw
variable {Φ : FEnv}
/-! ### what a board shows -/
def settled (t : Bool) (lo hi n : Int) : Int := if lo ≤ n ∧ n ≤ hi then n else if t = true then lo + (n - lo) % (hi - lo + 1) else if n < lo then lo else hi
def handed : Hd → Int → Int
  | .no, n => n
  | .mk near u, n => (n + (if near = true then u / 2 else 0)) / u * u
def handedP : Pt → Int → Int
  | .slip .., n => n
  | .ctr _ _ _ hd _, n => handed hd n
structure LSt where
  now : Int
  ca : Bool
  rs : List (Int × Bool)
  ns : List Int
mutual
def led : Pt → List Int → Int × List (Int × Bool) × List Int
  | .slip _ _, ns => (ns.headD 0, [], ns.tail)
  | .ctr t lo hi _ ps, ns => ((ledL t lo hi ps ⟨0, false, [], ns⟩).now, ((ledL t lo hi ps ⟨0, false, [], ns⟩).now, (ledL t lo hi ps ⟨0, false, [], ns⟩).ca) :: (ledL t lo hi ps ⟨0, false, [], ns⟩).rs, (ledL t lo hi ps ⟨0, false, [], ns⟩).ns)
def ledL (t : Bool) (lo hi : Int) : List Pt → LSt → LSt
  | [], s => s
  | p :: ps, s => ledL t lo hi ps ⟨settled t lo hi (s.now + handedP p (led p s.ns).1), s.ca || !decide (settled t lo hi (s.now + handedP p (led p s.ns).1) = s.now + handedP p (led p s.ns).1), s.rs ++ (led p s.ns).2.1, (led p s.ns).2.2⟩
end
def ledS (t : Bool) (lo hi : Int) (s : LSt) (p : Pt) : LSt := ⟨settled t lo hi (s.now + handedP p (led p s.ns).1), s.ca || !decide (settled t lo hi (s.now + handedP p (led p s.ns).1) = s.now + handedP p (led p s.ns).1), s.rs ++ (led p s.ns).2.1, (led p s.ns).2.2⟩
theorem ledL_fold (t : Bool) (lo hi : Int) : ∀ (ps : List Pt) (s : LSt), ledL t lo hi ps s = ps.foldl (ledS t lo hi) s
  | [], s => by rw [ledL]; rfl
  | p :: ps, s => by rw [ledL, List.foldl_cons, ← ledL_fold]; rfl
@[simp] theorem led_s {l h : Int} {ns : List Int} : led (.slip l h) ns = (ns.headD 0, [], ns.tail) := by rw [led]
theorem led_c {t : Bool} {lo hi : Int} {hd : Hd} {ps : List Pt} {ns : List Int} : led (.ctr t lo hi hd ps) ns = ((ps.foldl (ledS t lo hi) ⟨0, false, [], ns⟩).now, ((ps.foldl (ledS t lo hi) ⟨0, false, [], ns⟩).now, (ps.foldl (ledS t lo hi) ⟨0, false, [], ns⟩).ca) :: (ps.foldl (ledS t lo hi) ⟨0, false, [], ns⟩).rs, (ps.foldl (ledS t lo hi) ⟨0, false, [], ns⟩).ns) := by
  rw [led, ledL_fold]
mutual
theorem led_len : ∀ (p : Pt) (ns : List Int), (led p ns).2.1.length = (ctrs p).length ∧ (led p ns).2.2 = ns.drop (slips p).length
  | .slip l h, ns => by simp
  | .ctr t lo hi hd ps, ns => by
    obtain ⟨h1, h2⟩ := ledL_len t lo hi ps ⟨0, false, [], ns⟩
    rw [led, slips_c, ctrs_c]
    refine ⟨?_, h2⟩
    simp only [List.length_cons]
    rw [h1]; simp
theorem ledL_len (t : Bool) (lo hi : Int) : ∀ (ps : List Pt) (s : LSt), (ledL t lo hi ps s).rs.length = s.rs.length + (ctrsL ps).length ∧ (ledL t lo hi ps s).ns = s.ns.drop (slipsL ps).length
  | [], s => by rw [ledL]; simp
  | p :: ps, s => by
    obtain ⟨h1, h2⟩ := led_len p s.ns
    rw [ledL]
    obtain ⟨h3, h4⟩ := ledL_len t lo hi ps ⟨settled t lo hi (s.now + handedP p (led p s.ns).1), s.ca || !decide (settled t lo hi (s.now + handedP p (led p s.ns).1) = s.now + handedP p (led p s.ns).1), s.rs ++ (led p s.ns).2.1, (led p s.ns).2.2⟩
    refine ⟨by rw [h3]; simp [h1]; omega, ?_⟩
    rw [h4]; simp only [h2, slipsL_c, List.drop_drop, List.length_append]
end
/-! ### data -/
abbrev intsL (ns : List Int) : List D := ns.map PyData.int
def rowD (r : Int × Bool) : D := .tuple [.int r.1, .bool r.2]
theorem kind_eq (t : Bool) : (kindS t == z_turns) = t := by cases t <;> simp [kindS]
@[simp] theorem kindS_ok {t : Bool} : PyData.canLay0 (.str (kindS t)) = true := by cases t <;> simp [kindS]
@[simp] theorem handS_ok {t : Bool} : PyData.canLay0 (.str (handS t)) = true := by cases t <;> simp [handS]
theorem hand_eq (t : Bool) : (handS t == z_near) = t := by cases t <;> simp [handS]
theorem forL_map {α S : Type} (enc : α → D) (E : S → En) (g : S → α → S) (P : S → List α → Prop) {b : D → En → Option En} {f : En → SOut} : ∀ {as : List α} {s : S}, (∀ s a as, P s (a :: as) → ∃ e1, b (enc a) (E s) = some e1 ∧ f e1 = .nx (E (g s a)) ∧ P (g s a) as) → P s as → forL b f (as.map enc) (E s) = .nx (E (as.foldl g s))
  | [], s, _, _ => rfl
  | a :: as, s, h, p => by
    obtain ⟨e1, h1, h2, h3⟩ := h s a as p
    rw [List.map_cons, q_for1, h1, optS_some, h2]
    exact forL_map enc E g P (as := as) h h3
theorem cut_tail {x : D} {xs : List D} : cutD (x :: xs) (some 1) none = xs := by
  unfold cutD
  simp [HT.sIx]
theorem setAt_mid {xs zs : List D} {x y : D} : setAtD (xs.length : Int) x (xs ++ y :: zs) = some (xs ++ x :: zs) := by
  unfold setAtD ixN
  have h1 : ¬ ((xs.length : Int) < 0) := by omega
  simp [h1]
  omega
@[simp] def f_settled : List D → Option Res
  | [.str k, .int lo, .int hi, .int n] => if PyData.canLay0 (.str k) = true ∧ lo ≤ hi then some (.ok (.int (settled (k == z_turns) lo hi n))) else none
  | _ => none
theorem ok_settled : ∀ args, fnP f_settled args ≠ .bad → ∃ j, funOf 4 4 (denSs Φ j ir_settled) args = fnP f_settled args := fnP_ok fun ds r h => by
  unfold f_settled at h
  split at h
  · rename_i k lo hi n
    split at h
    · rename_i hk
      obtain ⟨hk, hl⟩ := hk
      cases h
      refine ⟨rfl, 0, ?_⟩
      have hd : 0 < hi - lo + 1 := by omega
      unfold settled
      by_cases h1 : lo ≤ n
      · by_cases h2 : n ≤ hi
        · simp [ir_settled, *]
        · by_cases h3 : k = z_turns
          · subst h3; simp [ir_settled, *]
          · have h4 : (k == z_turns) = false := beq_eq_false_iff_ne.mpr h3
            have h5 : ¬ n < lo := by omega
            simp [ir_settled, *]
      · by_cases h3 : k = z_turns
        · subst h3; simp [ir_settled, *]
        · have h4 : (k == z_turns) = false := beq_eq_false_iff_ne.mpr h3
          have h5 : n < lo := by omega
          simp [ir_settled, *]
    · cases h
  · cases h
@[simp] def f_handed : List D → Option Res
  | [.tuple [], .int n] => some (.ok (.int n))
  | [.tuple [.str w, .int u], .int n] => if PyData.canLay0 (.str w) = true ∧ 0 < u ∧ u < 1000 then some (.ok (.int (handed (.mk (w == z_near) u) n))) else none
  | _ => none
theorem ok_handed : ∀ args, fnP f_handed args ≠ .bad → ∃ j, funOf 4 2 (denSs Φ j ir_handed) args = fnP f_handed args := fnP_ok fun ds r h => by
  unfold f_handed at h
  split at h
  · cases h
    exact ⟨rfl, 0, by simp [ir_handed, eqD, okPair]⟩
  · rename_i w u n
    split at h
    · rename_i hk
      obtain ⟨hk, hu, hu2⟩ := hk
      cases h
      refine ⟨rfl, 0, ?_⟩
      have b1 : u < 1073741824 := by omega
      have b2 : u < 18446744073709551616 := by omega
      have b3 : -18446744073709551616 < u := by omega
      unfold handed
      by_cases h3 : w = z_near
      · subst h3; simp [ir_handed, eqD, okPair, PyData.eqvAll, *]
      · have h4 : (w == z_near) = false := beq_eq_false_iff_ne.mpr h3
        simp [ir_handed, eqD, okPair, PyData.eqvAll, *]
    · cases h
  · cases h
theorem f_handed_D {hd : Hd} (h : hd.ok) (n : Int) : f_handed [hd.D, .int n] = some (.ok (.int (handed hd n))) := by
  cases hd with
  | no => rfl
  | mk near u =>
    obtain ⟨h1, h2⟩ := h
    have a : 0 < u := by omega
    have b : u < 1000 := by omega
    simp [Hd.D, a, b, hand_eq]
end K
namespace K
open PySem PySem.Spec L2 Fw
variable {Φ : FEnv}
/-- what led is worth, for counters with at most n counters within each other -/
def PLed (n : Nat) (F : FnDen) : Prop := ∀ (t : Bool) (lo hi : Int) (hd : Hd) (ps : List Pt), PtOk n (.ctr t lo hi hd ps) → ∀ (ns : List Int) (q : Bool) (rows : List D), (slipsL ps).length ≤ ns.length → ns.length ≤ 1000 → rows.length + (ctrs (.ctr t lo hi hd ps)).length ≤ 1000 →
  F [.d (Pt.ctr t lo hi hd ps).D, .d (.tuple (intsL ns)), .own q rows] = .ret (.d (.tuple [.int (led (.ctr t lo hi hd ps) ns).1, .tuple (intsL (led (.ctr t lo hi hd ps) ns).2.2)])) [[], [], rows ++ (led (.ctr t lo hi hd ps) ns).2.1.map rowD]
theorem pled_zero {F : FnDen} : PLed 0 F := fun t lo hi hd ps h => h.elim
structure XSt where
  s : LSt
  a : Option D
  b : Option D
  c : Option D
def ledBody : List IS := [.ifs (.cmp .Eq (.prim .len [.var 6]) (.cst (.int 2))) [.par [7, 1] [.v (.ix (.var 1) (.cst (.int 0))), .v (.sl (.var 1) (.cst (.int 1)) (.hole))]] [.asg (.tup [.name 7, .name 1]) (.call 41 3 [.var 6, .var 1, .peek 2]), .asg (.name 7) (.call 39 2 [.ix (.var 6) (.cst (.int 3)), .var 7])], .asg (.name 8) (.call 38 4 [.ix (.var 0) (.cst (.int 0)), .ix (.var 0) (.cst (.int 1)), .ix (.var 0) (.cst (.int 2)), .bin .Add (.var 4) (.var 7)]), .par [4, 5] [.v (.var 8), .v (.or (.var 5) (.cmp .NotEq (.var 8) (.bin .Add (.var 4) (.var 7))))]]
theorem led_loop {n : Nat} (h41 : PLed n (Φ.fn 41)) (h39 : Fn Φ 39 f_handed) (h38 : Fn Φ 38 f_settled) {t : Bool} {lo hi : Int} {hd : Hd} (hlh : lo ≤ hi) {ps : List Pt} (hps : ∀ p ∈ ps, PtOk n p) {ns : List Int} {q : Bool} {rows : List D} {dd : D} (hdd : ∃ ds, dd = .tuple (.str (kindS t) :: .int lo :: .int hi :: ds))
    (h1 : (slipsL ps).length ≤ ns.length) (h2 : ns.length ≤ 1000) (h3 : rows.length + 1 + (ctrsL ps).length ≤ 1000) :
    ∃ a b c, forL (setD 6) (denSs Φ 0 ledBody) (ps.map Pt.D) [some (.d dd), some (.d (.tuple (intsL ns))), some (.own q (rows ++ [.none])), some (.d (.int rows.length)), some (.d (.int 0)), some (.d (.bool false)), none, none, none] =
      .nx [some (.d dd), some (.d (.tuple (intsL (ps.foldl (ledS t lo hi) ⟨0, false, [], ns⟩).ns))), some (.own q (rows ++ .none :: (ps.foldl (ledS t lo hi) ⟨0, false, [], ns⟩).rs.map rowD)), some (.d (.int rows.length)), some (.d (.int (ps.foldl (ledS t lo hi) ⟨0, false, [], ns⟩).now)), some (.d (.bool (ps.foldl (ledS t lo hi) ⟨0, false, [], ns⟩).ca)), a, b, c] := by
  obtain ⟨ds, rfl⟩ := hdd
  have key := forL_map (α := Pt) Pt.D (fun (x : XSt) => [some (SV.d (.tuple (.str (kindS t) :: .int lo :: .int hi :: ds))), some (.d (.tuple (intsL x.s.ns))), some (.own q (rows ++ .none :: x.s.rs.map rowD)), some (.d (.int rows.length)), some (.d (.int x.s.now)), some (.d (.bool x.s.ca)), x.a.map SV.d, x.b.map SV.d, x.c.map SV.d])
    (fun x p => ⟨ledS t lo hi x.s p, some p.D, some (.int (handedP p (led p x.s.ns).1)), some (.int (ledS t lo hi x.s p).now)⟩) (fun x as => (∀ p ∈ as, PtOk n p) ∧ (slipsL as).length ≤ x.s.ns.length ∧ x.s.ns.length ≤ 1000 ∧ rows.length + 1 + x.s.rs.length + (ctrsL as).length ≤ 1000) (b := setD 6) (f := denSs Φ 0 ledBody) (as := ps) (s := ⟨⟨0, false, [], ns⟩, none, none, none⟩) (fun x p as hx => ?_) ⟨hps, h1, h2, by simpa using h3⟩
  · have e : ∀ (ps : List Pt) (x : XSt), ∃ a b c, ps.foldl (fun (x : XSt) p => (⟨ledS t lo hi x.s p, some p.D, some (.int (handedP p (led p x.s.ns).1)), some (.int (ledS t lo hi x.s p).now)⟩ : XSt)) x = ⟨ps.foldl (ledS t lo hi) x.s, a, b, c⟩ := fun ps => by
      induction ps with
      | nil => exact fun x => ⟨x.a, x.b, x.c, rfl⟩
      | cons p ps ih => exact fun x => ih _
    obtain ⟨a, b, c, e⟩ := e ps ⟨⟨0, false, [], ns⟩, none, none, none⟩
    rw [e] at key
    exact ⟨_, _, _, key⟩
  · obtain ⟨⟨now, ca, rs, ms⟩, a, b, c⟩ := x
    obtain ⟨k1, k2, k3, k4⟩ := hx
    refine ⟨[some (SV.d (.tuple (.str (kindS t) :: .int lo :: .int hi :: ds))), some (.d (.tuple (intsL ms))), some (.own q (rows ++ .none :: rs.map rowD)), some (.d (.int rows.length)), some (.d (.int now)), some (.d (.bool ca)), some (.d p.D), b.map SV.d, c.map SV.d], by cases a <;> rfl, ?_, fun p' hp' => k1 p' (by simp [hp']), ?_, ?_, ?_⟩
    · have hp := k1 p (by simp)
      cases p with
      | slip l h =>
        obtain ⟨m, ms', rfl⟩ : ∃ m ms', ms = m :: ms' := by
          cases ms with
          | nil => simp at k2
          | cons m ms' => exact ⟨m, ms', rfl⟩
        have hS : ledS t lo hi ⟨now, ca, rs, m :: ms'⟩ (.slip l h) = ⟨settled t lo hi (now + m), ca || !decide (settled t lo hi (now + m) = now + m), rs, ms'⟩ := by simp [ledS, handedP]
        rw [hS]
        generalize hw : settled t lo hi (now + m) = th
        cases ca <;> simp [ledBody, cut_tail, kind_eq, handedP, *]
      | ctr t2 lo2 hi2 hd2 ps2 =>
        have h41' := h41 t2 lo2 hi2 hd2 ps2 hp ms true (rows ++ .none :: rs.map rowD) (by simp at k2; omega) k3 (by simp at k4 ⊢; omega)
        rcases hl : led (.ctr t2 lo2 hi2 hd2 ps2) ms with ⟨m, rs', ms'⟩
        rw [hl] at h41'
        have hok : hd2.ok := by cases n with | zero => exact hp.elim | succ n => exact hp.1.hd
        have hh := f_handed_D hok m
        have hS : ledS t lo hi ⟨now, ca, rs, ms⟩ (.ctr t2 lo2 hi2 hd2 ps2) = ⟨settled t lo hi (now + handed hd2 m), ca || !decide (settled t lo hi (now + handed hd2 m) = now + handed hd2 m), rs ++ rs', ms'⟩ := by simp [ledS, handedP, hl]
        rw [hS]
        generalize hw : settled t lo hi (now + handed hd2 m) = th
        rw [D_ctr] at h41' ⊢
        dsimp only at h41'
        cases ca <;> simp [ledBody, cut_tail, kind_eq, handedP, hl, -f_handed, *]
    · obtain ⟨h1', h2'⟩ := led_len p ms
      show _ ≤ (led p ms).2.2.length
      rw [h2', List.length_drop]
      simp at k2; omega
    · obtain ⟨h1', h2'⟩ := led_len p ms
      show (led p ms).2.2.length ≤ 1000
      rw [h2', List.length_drop]
      have : ms.length ≤ 1000 := k3
      omega
    · obtain ⟨h1', h2'⟩ := led_len p ms
      show rows.length + 1 + (rs ++ (led p ms).2.1).length + _ ≤ 1000
      rw [List.length_append, h1']
      simp at k4; omega
theorem pr_led {n : Nat} (h41 : PLed n (Φ.fn 41)) (h39 : Fn Φ 39 f_handed) (h38 : Fn Φ 38 f_settled) : PLed (n + 1) (funOf 9 3 (denSs Φ 0 ir_led)) := by
  intro t lo hi hd ps hp ns q rows h1 h2 h3
  obtain ⟨hc, hps⟩ := hp
  simp only [ctrs_c, List.length_cons] at h3
  obtain ⟨a, b, c, hl⟩ := led_loop (n := n) h41 h39 h38 (t := t) (lo := lo) (hi := hi) (hd := hd) (by have := hc.h; omega) hps (ns := ns) (q := q) (rows := rows) (dd := (Pt.ctr t lo hi hd ps).D) ⟨_, D_ctr⟩ h1 h2 (by omega)
  rw [led_c]
  have e : ir_led = [.par [3, 4, 5] [.v (.prim .len [.peek 2]), .v (.cst (.int 0)), .v (.cst (.bool false))], .app 2 (.cst .none), .for_ (.name 6) (.seq (.ix (.var 0) (.cst (.int 4)))) ledBody, .sub 2 (.var 3) (.tup [.var 4, .var 5]), .ret (.tup [.var 4, .var 1])] := rfl
  rw [e]
  have hz : rows.length < sizeLine := szlt (by omega)
  rw [D_ctr] at hl ⊢
  simp [funOf, appD, hz, hl, setAt_mid, outsOf, rowD]
end K
namespace K
open PySem PySem.Spec L2 Fw
variable {Φ : FEnv}
/-- a board: typed, and told to be one -/
structure Bd (p : Pt) : Prop where
  ok : BdOk p
  isb : isBoard p.D = true
theorem board_bd {b : D} (h : isBoard b = true) : ∃ p : Pt, b = p.D ∧ Bd p := by
  obtain ⟨p, rfl, hp⟩ := board_typed h
  exact ⟨p, rfl, hp, h⟩
theorem Bd.cl {p : Pt} (h : Bd p) : p.D.canLay0 = true := (board_sz h.isb).c
theorem Bd.slN {p : Pt} (h : Bd p) : slipsN 4 p.D = (slips p).map slD2 := slipsN_typed h.ok.ok
theorem Bd.ctN {p : Pt} (h : Bd p) : ctrsN 4 p.D = (ctrs p).map Pt.D := ctrsN_typed h.ok.ok
/-! ### numbers of a board -/
def numsOk : List (Int × Int) → List D → Bool
  | [], [] => true
  | s :: ss, d :: ds => isWhole d s.1 s.2 && numsOk ss ds
  | _, _ => false
def needN (p : Pt) : D → Bool
  | .tuple ds => numsOk (slips p) ds
  | _ => false
theorem numsOk_len : ∀ {ss : List (Int × Int)} {ds : List D}, numsOk ss ds = true → ds.length = ss.length
  | [], [], _ => rfl
  | [], _ :: _, h => by cases h
  | _ :: _, [], h => by cases h
  | s :: ss, d :: ds, h => by
    have h := and2 (show (isWhole d s.1 s.2 && numsOk ss ds) = true from h)
    rw [List.length_cons, List.length_cons, numsOk_len h.2]
/-- numbers between the ends -/
def InB : List (Int × Int) → List Int → Prop
  | [], [] => True
  | s :: ss, n :: ns => s.1 ≤ n ∧ n ≤ s.2 ∧ InB ss ns
  | _, _ => False
theorem numsOk_ints : ∀ {ss : List (Int × Int)} {ds : List D}, numsOk ss ds = true → ∃ ns, ds = intsL ns ∧ InB ss ns
  | [], [], _ => ⟨[], rfl, trivial⟩
  | [], _ :: _, h => by cases h
  | _ :: _, [], h => by cases h
  | s :: ss, d :: ds, h => by
    have h := and2 (show (isWhole d s.1 s.2 && numsOk ss ds) = true from h)
    obtain ⟨ns, rfl, hb⟩ := numsOk_ints h.2
    have h1 := h.1
    cases d <;> simp [isWhole] at h1
    exact ⟨_ :: ns, rfl, h1.1, h1.2, hb⟩
theorem inB_len : ∀ {ss : List (Int × Int)} {ns : List Int}, InB ss ns → ns.length = ss.length
  | [], [], _ => rfl
  | [], _ :: _, h => h.elim
  | _ :: _, [], h => h.elim
  | s :: ss, n :: ns, h => by rw [List.length_cons, List.length_cons, inB_len h.2.2]
theorem inB_ok : ∀ {ss : List (Int × Int)} {ns : List Int}, InB ss ns → numsOk ss (intsL ns) = true
  | [], [], _ => rfl
  | [], _ :: _, h => h.elim
  | _ :: _, [], h => h.elim
  | s :: ss, n :: ns, h => by
    show (isWhole (.int n) s.1 s.2 && numsOk ss (intsL ns)) = true
    rw [inB_ok h.2.2]
    simp [isWhole, h.1, h.2.1]
def needBody : List IS := [.ifs (.not (.call 0 3 [.var 3, .var 4, .var 5])) [.raise 2] []]
theorem need_loop (h0 : Fn Φ 0 f_is_whole) {b v s : D} : ∀ (ss : List (Int × Int)) (ds : List D) (x y z : Option D), ds.length = ss.length →
    ∃ x' y' z' : Option D, forL (dTgt (.tup [.name 3, .tup [.name 4, .name 5]])) (denSs Φ 0 needBody) ((ds.zip (ss.map slD2)).map fun p => .tuple [p.1, p.2]) [some (.d b), some (.d v), some (.d s), x.map SV.d, y.map SV.d, z.map SV.d] =
      bif numsOk ss ds then .nx [some (.d b), some (.d v), some (.d s), x'.map SV.d, y'.map SV.d, z'.map SV.d] else .exc 2 [some (.d b), some (.d v), some (.d s), x'.map SV.d, y'.map SV.d, z'.map SV.d]
  | [], [], x, y, z, _ => ⟨x, y, z, rfl⟩
  | [], _ :: _, _, _, _, h => by cases h
  | _ :: _, [], _, _, _, h => by cases h
  | (l, h) :: ss, d :: ds, x, y, z, hl => by
    rw [List.map_cons, List.zip_cons_cons, List.map_cons, q_for1]
    have hb : dTgt (.tup [.name 3, .tup [.name 4, .name 5]]) (.tuple [d, slD2 (l, h)]) [some (.d b), some (.d v), some (.d s), x.map SV.d, y.map SV.d, z.map SV.d] = some [some (.d b), some (.d v), some (.d s), some (.d d), some (.d (.int l)), some (.d (.int h))] := by
      cases x <;> cases y <;> cases z <;> simp [slD2]
    rw [hb, optS_some]
    obtain ⟨x', y', z', ih⟩ := need_loop h0 ss ds (some d) (some (.int l)) (some (.int h)) (by simpa using hl)
    cases hw : isWhole d l h with
    | false =>
      refine ⟨some d, some (.int l), some (.int h), ?_⟩
      simp [needBody, h0, hw, numsOk]
    | true =>
      refine ⟨x', y', z', ?_⟩
      have hs : denSs Φ 0 needBody [some (.d b), some (.d v), some (.d s), some (.d d), some (.d (.int l)), some (.d (.int h))] = .nx [some (.d b), some (.d v), some (.d s), some (.d d), some (.d (.int l)), some (.d (.int h))] := by simp [needBody, h0, hw]
      rw [hs]
      dsimp only
      have e : numsOk ((l, h) :: ss) (d :: ds) = numsOk ss ds := by show (isWhole d l h && numsOk ss ds) = _; rw [hw]; rfl
      rw [e]
      exact ih
/-- what a def with a first argument that must be a board, a second one numbers, is worth where it is refused -/
structure PRef (F : FnDen) : Prop where
  b : ∀ b v, b.canLay0 = true → isBoard b = false → F [.d b, .d v] = .exc 1 [[], []]
  n : ∀ p v, Bd p → needN p v = false → F [.d p.D, .d v] = .exc 2 [[], []]
structure PNeedN (F : FnDen) : Prop extends PRef F where
  k : ∀ p ns, Bd p → InB (slips p) ns → F [.d p.D, .d (.tuple (intsL ns))] = .ret (.d .none) [[], []]
theorem pr_need_numbers (h0 : Fn Φ 0 f_is_whole) (h4 : Fn Φ 4 (f_slips_of 4)) (h7 : Fn Φ 7 f_need_board) : PNeedN (funOf 6 2 (denSs Φ 0 ir_need_numbers)) := by
  have hok : ∀ p ds, Bd p → ds.length = (slips p).length → ∃ x' y' z' : Option D, denSs Φ 0 ir_need_numbers [some (.d p.D), some (.d (.tuple ds)), none, none, none, none] = bif numsOk (slips p) ds then .nx [some (.d p.D), some (.d (.tuple ds)), some (.d (.tuple ((slips p).map slD2))), x'.map SV.d, y'.map SV.d, z'.map SV.d] else .exc 2 [some (.d p.D), some (.d (.tuple ds)), some (.d (.tuple ((slips p).map slD2))), x'.map SV.d, y'.map SV.d, z'.map SV.d] := fun p ds hp hl => by
    obtain ⟨x', y', z', h⟩ := need_loop (Φ := Φ) h0 (b := p.D) (v := .tuple ds) (s := .tuple ((slips p).map slD2)) (slips p) ds none none none hl
    refine ⟨x', y', z', ?_⟩
    have hb := hp.isb
    have hc := hp.cl
    have ho := board_ok hb
    have e : ir_need_numbers = [.expr (.call 7 1 [.var 0]), .asg (.name 2) (.call 4 1 [.var 0]), .ifs (.or (.not (.isinst "tuple" (.var 1))) (.cmp .NotEq (.prim .len [.var 1]) (.prim .len [.var 2]))) [.raise 2] [], .for_ (.tup [.name 3, .tup [.name 4, .name 5]]) (.zip (.var 1) (.var 2)) needBody] := rfl
    rw [e]
    have hl' : (ds.length : Int) = (slips p).length := by omega
    simp [h7, h4, hb, hc, ho, hp.slN, hl'] at h ⊢
    rw [h]
    cases numsOk (slips p) ds <;> rfl
  refine ⟨⟨fun b v hc hb => ?_, fun p v hp hv => ?_⟩, fun p ns hp hn => ?_⟩
  · simp [funOf, ir_need_numbers, h7, hc, hb, outsOf]
  · have hb := hp.isb
    have hc := hp.cl
    have ho := board_ok hb
    cases v with
    | tuple ds =>
      by_cases hl : ds.length = (slips p).length
      · obtain ⟨x', y', z', h⟩ := hok p ds hp hl
        have hv : numsOk (slips p) ds = false := hv
        rw [hv] at h
        simp [funOf, h, outsOf]
      · have hl' : ¬ (ds.length : Int) = (slips p).length := by omega
        simp [funOf, ir_need_numbers, h7, h4, hb, hc, ho, hp.slN, hl', outsOf]
    | _ => simp [funOf, ir_need_numbers, h7, h4, hb, hc, ho, hp.slN, outsOf]
  · obtain ⟨x', y', z', h⟩ := hok p (intsL ns) hp (by rw [List.length_map]; exact inB_len hn)
    rw [inB_ok hn] at h
    simp [funOf, h, outsOf]
/-! ### rows -/
def PRows (F : FnDen) : Prop := ∀ p ns, Bd p → (slips p).length ≤ ns.length → ns.length ≤ 1000 → F [.d p.D, .d (.tuple (intsL ns))] = .ret (.d (.list ((led p ns).2.1.map rowD))) [[], []]
theorem pr_rows_of (h41 : PLed 3 (Φ.fn 41)) : PRows (funOf 3 2 (denSs Φ 0 ir_rows_of)) := by
  intro p ns hp hl hz
  obtain ⟨t, lo, hi, ps, rfl⟩ := hp.ok.top
  have h := h41 t lo hi .no ps hp.ok.ok ns true [] (by simpa using hl) hz (by have := hp.ok.c; simp at this ⊢; omega)
  simp at h
  simp [funOf, ir_rows_of, h, outsOf]
end K
namespace K
open PySem PySem.Spec L2 Fw
variable {Φ : FEnv}
@[simp] def f_need_facts : List D → Option Res
  | [b, v] => if b.canLay0 = true ∧ v.canLay0 = true then some (if isBoard b = true then (if areFacts b v = true then .ok .none else .error 3) else .error 1) else none
  | _ => none
theorem ok_need_facts (h9 : Fn Φ 9 f_are_facts) : ∀ args, fnP f_need_facts args ≠ .bad → ∃ j, funOf 2 2 (denSs Φ j ir_need_facts) args = fnP f_need_facts args := fnP_ok fun ds r h => by
  unfold f_need_facts at h
  split at h
  · rename_i b v
    split at h
    · rename_i hv
      obtain ⟨hb, hv⟩ := hv
      cases h
      refine ⟨rfl, 0, ?_⟩
      cases hbb : isBoard b
      · simp [ir_need_facts, *]
      · cases hf : areFacts b v <;> simp [ir_need_facts, *]
    · cases h
  · cases h
/-- rows' first parts -/
def shownL (p : Pt) (ns : List Int) : List Int := (led p ns).2.1.map (·.1)
def caughtFrom : Nat → List (Int × Bool) → List Int
  | _, [] => []
  | i, r :: rs => bif r.2 then (i : Int) :: caughtFrom (i + 1) rs else caughtFrom (i + 1) rs
def caughtL (p : Pt) (ns : List Int) : List Int := caughtFrom 0 (led p ns).2.1
structure PShown (F : FnDen) : Prop extends PRef F where
  k : ∀ p ns, Bd p → InB (slips p) ns → F [.d p.D, .d (.tuple (intsL ns))] = .ret (.d (.list (intsL (shownL p ns)))) [[], []]
theorem rows_small {p : Pt} (hp : Bd p) (ns : List Int) : (led p ns).2.1.length ≤ 6 := by rw [(led_len p ns).1]; exact hp.ok.c
theorem ns_small {p : Pt} (hp : Bd p) {ns : List Int} (h : InB (slips p) ns) : ns.length ≤ 8 := by rw [inB_len h]; exact hp.ok.s.2
theorem pr_shown (h40 : PNeedN (Φ.fn 40)) (h42 : PRows (Φ.fn 42)) : PShown (funOf 3 2 (denSs Φ 0 ir_shown)) := by
  refine ⟨⟨fun b v hc hb => ?_, fun p v hp hv => ?_⟩, fun p ns hp hn => ?_⟩
  · have := h40.b b v hc hb
    simp [funOf, ir_shown, this, outsOf]
  · have := h40.n p v hp hv
    simp [funOf, ir_shown, this, outsOf]
  · have h1 := h40.k p ns hp hn
    have hz := ns_small hp hn
    have h2 := h42 p ns hp (by rw [inB_len hn]; exact Nat.le_refl _) (by omega)
    have hr := rows_small hp ns
    have hc := dComp_M rowD (led p ns).2.1 (fun r => .int r.1) (fi := denI Φ (.seq (.call 42 2 [.var 0, .var 1]))) (vs := [2]) (b := setD 2) (fe := den Φ (.ix (.var 2) (.cst (.int 0)))) (e := [some (SV.d p.D), some (.d (.tuple (intsL ns))), none]) (e1 := [some (SV.d p.D), some (.d (.tuple (intsL ns))), none]) (by simp [h2]) rfl (szl2 (by omega))
      (fun r _ => ⟨[some (SV.d p.D), some (.d (.tuple (intsL ns))), some (.d (rowD r))], rfl, [some (SV.d p.D), some (.d (.tuple (intsL ns))), some (.d (rowD r))], by simp [rowD], rfl, rfl⟩) rfl
    have e : (led p ns).2.1.map (fun r => PyData.int r.1) = intsL (shownL p ns) := by simp [shownL]
    rw [e] at hc
    simp [funOf, ir_shown, h1, hc, outsOf]
structure PCaught (F : FnDen) : Prop extends PRef F where
  k : ∀ p ns, Bd p → InB (slips p) ns → F [.d p.D, .d (.tuple (intsL ns))] = .ret (.d (.list (intsL (caughtL p ns)))) [[], []]
theorem enumD_cons : ∀ (i : Nat) (ds : List D), (List.range' i ds.length).zip ds = match ds with | [] => [] | d :: r => (i, d) :: (List.range' (i + 1) r.length).zip r
  | _, [] => rfl
  | i, d :: r => by simp [List.range'_succ]
theorem enumD_range' (ds : List D) : enumD ds = ((List.range' 0 ds.length).zip ds).map fun p => .tuple [.int (p.1 : Nat), p.2] := by
  unfold enumD; rw [List.range_eq_range']
/-- the pairs of places and rows -/
def enumR : Nat → List (Int × Bool) → List (Nat × (Int × Bool))
  | _, [] => []
  | i, r :: rs => (i, r) :: enumR (i + 1) rs
theorem enumR_len : ∀ (i : Nat) (rs : List (Int × Bool)), (enumR i rs).length = rs.length
  | _, [] => rfl
  | i, r :: rs => congrArg (· + 1) (enumR_len (i + 1) rs)
def enumRD (q : Nat × (Int × Bool)) : D := .tuple [.int q.1, rowD q.2]
theorem enumR_D (rs : List (Int × Bool)) : enumD (rs.map rowD) = (enumR 0 rs).map enumRD := by
  rw [enumD_range']
  have key : ∀ (i : Nat) (rs : List (Int × Bool)), ((List.range' i (rs.map rowD).length).zip (rs.map rowD)).map (fun p => PyData.tuple [.int (p.1 : Nat), p.2]) = (enumR i rs).map enumRD := by
    intro i rs
    induction rs generalizing i with
    | nil => rfl
    | cons r rs ih =>
      rw [List.map_cons, List.length_cons, List.range'_succ, List.zip_cons_cons, List.map_cons, ih (i + 1)]
      rfl
  exact key 0 rs
theorem enumR_caught : ∀ (i : Nat) (rs : List (Int × Bool)), ((enumR i rs).filter fun q => q.2.2).map (fun q => PyData.int (q.1 : Nat)) = intsL (caughtFrom i rs)
  | _, [] => rfl
  | i, r :: rs => by
    have ih := enumR_caught (i + 1) rs
    cases h : r.2 <;> simp [enumR, caughtFrom, h, ih]
theorem pr_caught (h40 : PNeedN (Φ.fn 40)) (h42 : PRows (Φ.fn 42)) : PCaught (funOf 4 2 (denSs Φ 0 ir_caught)) := by
  refine ⟨⟨fun b v hc hb => ?_, fun p v hp hv => ?_⟩, fun p ns hp hn => ?_⟩
  · have := h40.b b v hc hb
    simp [funOf, ir_caught, this, outsOf]
  · have := h40.n p v hp hv
    simp [funOf, ir_caught, this, outsOf]
  · have h1 := h40.k p ns hp hn
    have hz := ns_small hp hn
    have h2 := h42 p ns hp (by rw [inB_len hn]; exact Nat.le_refl _) (by omega)
    have hr := rows_small hp ns
    have hc := dComp_A enumRD (enumR 0 (led p ns).2.1) (fun q => q.2.2) (fun q => .int (q.1 : Nat)) (fi := denI Φ (.enum (.call 42 2 [.var 0, .var 1]))) (vs := [2, 3]) (b := bTup 2 (bCons (setD 2) (bCons (setD 3) bNil))) (ft := some (den Φ (.ix (.var 3) (.cst (.int 1))))) (fe := den Φ (.var 2)) (e := [some (SV.d p.D), some (.d (.tuple (intsL ns))), none, none]) (e1 := [some (SV.d p.D), some (.d (.tuple (intsL ns))), none, none]) (by simp [h2, enumR_D]) rfl (by rw [enumR_len]; exact szl2 (by omega))
      (fun q _ => ⟨[some (SV.d p.D), some (.d (.tuple (intsL ns))), some (.d (.int (q.1 : Nat))), some (.d (rowD q.2))], by simp [enumRD], [some (SV.d p.D), some (.d (.tuple (intsL ns))), some (.d (.int (q.1 : Nat))), some (.d (rowD q.2))], by simp [rowD], rfl, fun _ => ⟨[some (SV.d p.D), some (.d (.tuple (intsL ns))), some (.d (.int (q.1 : Nat))), some (.d (rowD q.2))], by simp, rfl⟩⟩) rfl
    rw [enumR_caught] at hc
    simp [funOf, ir_caught, h1, hc, outsOf, caughtL]
structure POff (F : FnDen) : Prop extends PRef F where
  k : ∀ p ns, Bd p → InB (slips p) ns → F [.d p.D, .d (.tuple (intsL ns))] = .ret (.d (.int ((led p ns).1 - ns.sum))) [[], []]
@[simp] theorem sumD_tuple {ns : List Int} : sumD [.tuple (intsL ns)] = some (.int ns.sum) := by simp [sumD, intsD_map]
@[simp] theorem sumD_list {ns : List Int} : sumD [.list (intsL ns)] = some (.int ns.sum) := by simp [sumD, intsD_map]
theorem led_head {p : Pt} (hp : Bd p) (ns : List Int) : ∃ c rs, (led p ns).2.1 = ((led p ns).1, c) :: rs := by
  obtain ⟨t, lo, hi, ps, rfl⟩ := hp.ok.top
  rw [led_c]
  exact ⟨_, _, rfl⟩
theorem pr_off (h40 : PNeedN (Φ.fn 40)) (h42 : PRows (Φ.fn 42)) : POff (funOf 2 2 (denSs Φ 0 ir_off)) := by
  refine ⟨⟨fun b v hc hb => ?_, fun p v hp hv => ?_⟩, fun p ns hp hn => ?_⟩
  · have := h40.b b v hc hb
    simp [funOf, ir_off, this, outsOf]
  · have := h40.n p v hp hv
    simp [funOf, ir_off, this, outsOf]
  · have h1 := h40.k p ns hp hn
    have hz := ns_small hp hn
    have h2 := h42 p ns hp (by rw [inB_len hn]; exact Nat.le_refl _) (by omega)
    obtain ⟨c, rs, hl⟩ := led_head hp ns
    rw [hl] at h2
    simp [funOf, ir_off, h1, h2, outsOf, rowD]
/-! ### facts -/
inductive Fc where
  | caught (i : Nat) (b : Bool)
  | slip (i : Nat) (lo hi : Int)
  | shows (i : Nat) (lo hi : Int)
def Fc.D : Fc → D
  | .caught i b => .tuple [.str z_caught, .int i, .bool b]
  | .slip i lo hi => .tuple [.str z_slip, .int i, .int lo, .int hi]
  | .shows i lo hi => .tuple [.str z_shows, .int i, .int lo, .int hi]
/-- s slips, c counters -/
def Fc.at (s c : Nat) : Fc → Prop
  | .caught i _ => i < c
  | .slip i lo hi => i < s ∧ -999 ≤ lo ∧ lo ≤ hi ∧ hi ≤ 999
  | .shows i lo hi => i < c ∧ -999 ≤ lo ∧ lo ≤ hi ∧ hi ≤ 999
def so (rows : List (Int × Bool)) (ns : List Int) : Fc → Bool
  | .caught i b => (rows.getD i (0, false)).2 == b
  | .slip i lo hi => decide (lo ≤ ns.getD i 0) && decide (ns.getD i 0 ≤ hi)
  | .shows i lo hi => decide (lo ≤ (rows.getD i (0, false)).1) && decide ((rows.getD i (0, false)).1 ≤ hi)
def PSo (F : FnDen) : Prop := ∀ (f : Fc) (rows : List (Int × Bool)) (ns : List Int), f.at ns.length rows.length → F [.d f.D, .d (.list (rows.map rowD)), .d (.tuple (intsL ns))] = .ret (.d (.bool (so rows ns f))) [[], [], []]
theorem atI_rows {rows : List (Int × Bool)} {i : Nat} (h : i < rows.length) : atI (rows.map rowD) (i : Int) = some (rowD (rows.getD i (0, false))) := by
  rw [atI_pos (by simpa using h)]
  simp [List.getD_eq_getElem?_getD, h]
theorem atI_ints {ns : List Int} {i : Nat} (h : i < ns.length) : atI (intsL ns) (i : Int) = some (.int (ns.getD i 0)) := by
  rw [atI_pos (by simpa using h)]
  simp [List.getD_eq_getElem?_getD, h]
theorem eqD_bool {a b : Bool} : eqD (.bool a) (.bool b) = some (.bool (a == b)) := by simp [eqD, okPair]
theorem pr_is_so : PSo (funOf 4 3 (denSs Φ 0 ir_is_so)) := by
  intro f rows ns h
  cases f with
  | caught i b =>
    have e := atI_rows (show i < rows.length from h)
    simp [funOf, ir_is_so, Fc.D, so, e, rowD, eqD_bool, outsOf]
  | slip i lo hi =>
    have e := atI_ints (show i < ns.length from h.1)
    have hs : so rows ns (.slip i lo hi) = (decide (lo ≤ ns.getD i 0) && decide (ns.getD i 0 ≤ hi)) := rfl
    rw [hs]
    generalize ns.getD i 0 = n at *
    cases h1 : decide (lo ≤ n) <;> simp [funOf, ir_is_so, Fc.D, e, outsOf, h1, -decide_eq_true_eq, -decide_eq_false_iff_not]
  | shows i lo hi =>
    have e := atI_rows (show i < rows.length from h.1)
    have hs : so rows ns (.shows i lo hi) = (decide (lo ≤ (rows.getD i (0, false)).1) && decide ((rows.getD i (0, false)).1 ≤ hi)) := rfl
    rw [hs]
    generalize rows.getD i (0, false) = n at *
    cases h1 : decide (lo ≤ n.1) <;> simp [funOf, ir_is_so, Fc.D, e, outsOf, h1, rowD, -decide_eq_true_eq, -decide_eq_false_iff_not]
end K
namespace K
open PySem PySem.Spec L2 Fw
variable {Φ : FEnv}
theorem whole_nat {a : D} {n : Nat} (h : isWhole a 0 ((n : Int) - 1) = true) : ∃ i : Nat, a = .int i ∧ i < n := by
  cases a <;> simp [isWhole] at h
  rename_i x
  obtain ⟨i, rfl⟩ := Int.eq_ofNat_of_zero_le h.1
  exact ⟨i, rfl, by omega⟩
theorem fact_typed {s c : Nat} {v : D} (h : isFact s c v = true) : ∃ f : Fc, v = f.D ∧ f.at s c := by
  unfold isFact at h
  split at h
  · rename_i k a x
    have h := and2 h
    have h1 := and2 h.1
    have hk : k = z_caught := beq_iff_eq.mp h1.2
    subst hk
    have e : many s c z_caught = (c : Int) := by simp [many]
    rw [e] at h1
    obtain ⟨i, rfl, hi⟩ := whole_nat h1.1
    have hx := h.2
    cases x <;> simp [isBoolD] at hx
    exact ⟨.caught i _, rfl, hi⟩
  · rename_i k a lo hi
    have h := and2 h
    have h1 := and2 h.1
    have h2 := and2 h1.1
    have hlo := h1.2
    have hhi := h.2
    cases lo <;> simp [isWhole] at hlo
    cases hi <;> simp [isWhole] at hhi
    rcases anyEq2 h2.2 with rfl | rfl
    · have e : many s c z_shows = (c : Int) := by simp [many]
      rw [e] at h2
      obtain ⟨i, rfl, hi⟩ := whole_nat h2.1
      exact ⟨.shows i _ _, rfl, hi, hlo.1, hhi⟩
    · have e : many s c z_slip = (s : Int) := by simp [many]
      rw [e] at h2
      obtain ⟨i, rfl, hi⟩ := whole_nat h2.1
      exact ⟨.slip i _ _, rfl, hi, hlo.1, hhi⟩
  · cases h
theorem facts_typed {p : Pt} (hp : Bd p) {v : D} (h : areFacts p.D v = true) : ∃ fs : List Fc, v = .tuple (fs.map Fc.D) ∧ fs.length ≤ 6 ∧ ∀ f ∈ fs, f.at (slips p).length (ctrs p).length := by
  cases v with
  | tuple ds =>
    have h := and2 (show (decide (ds.length ≤ 6) && ds.all (factOf p.D)) = true from h)
    have hl := of_decide_eq_true h.1
    have key : ∀ ds : List D, (∀ d ∈ ds, factOf p.D d = true) → ∃ fs : List Fc, ds = fs.map Fc.D ∧ ∀ f ∈ fs, f.at (slips p).length (ctrs p).length := by
      intro ds
      induction ds with
      | nil => exact fun _ => ⟨[], rfl, fun f hf => nomatch hf⟩
      | cons d ds ih =>
        intro h
        have hd := h d (by simp)
        unfold factOf at hd
        rw [hp.slN, hp.ctN, List.length_map, List.length_map] at hd
        obtain ⟨f, rfl, hf⟩ := fact_typed hd
        obtain ⟨fs, rfl, hfs⟩ := ih fun x hx => h x (by simp [hx])
        refine ⟨f :: fs, rfl, fun g hg => ?_⟩
        rcases List.mem_cons.mp hg with rfl | hg
        · exact hf
        · exact hfs g hg
    obtain ⟨fs, rfl, hfs⟩ := key ds (List.all_eq_true.mp h.2)
    exact ⟨fs, rfl, by rw [List.length_map] at hl; exact hl, hfs⟩
  | _ => cases h
theorem fact_is {p : Pt} (hp : Bd p) {f : Fc} (h : f.at (slips p).length (ctrs p).length) : factOf p.D f.D = true := by
  unfold factOf
  rw [hp.slN, hp.ctN, List.length_map, List.length_map]
  cases f with
  | caught i b =>
    have h : i < (ctrs p).length := h
    simp [Fc.D, isFact, isWhole, many, isBoolD]
    omega
  | slip i lo hi =>
    obtain ⟨h1, h2, h3, h4⟩ := h
    simp [Fc.D, isFact, isWhole, many, anyEq]
    omega
  | shows i lo hi =>
    obtain ⟨h1, h2, h3, h4⟩ := h
    simp [Fc.D, isFact, isWhole, many, anyEq]
    omega
theorem fact_cl (f : Fc) : f.D.canLay0 = true := by cases f <;> simp [Fc.D]
structure FcsOk (p : Pt) (fs : List Fc) : Prop where
  len : fs.length ≤ 6
  at_ : ∀ f ∈ fs, f.at (slips p).length (ctrs p).length
theorem FcsOk.are {p : Pt} (hp : Bd p) {fs : List Fc} (h : FcsOk p fs) : areFacts p.D (.tuple (fs.map Fc.D)) = true := by
  show (decide ((fs.map Fc.D).length ≤ 6) && (fs.map Fc.D).all (factOf p.D)) = true
  rw [List.length_map, decide_eq_true h.len, Bool.true_and, List.all_eq_true]
  intro d hd
  obtain ⟨f, hf, rfl⟩ := List.mem_map.mp hd
  exact fact_is hp (h.at_ f hf)
theorem fcs_cl (fs : List Fc) : (PyData.tuple (fs.map Fc.D)).canLay0 = true := by
  rw [cl_tuple]
  exact clAll_of fun d hd => by obtain ⟨f, _, rfl⟩ := List.mem_map.mp hd; exact fact_cl f
theorem boolsD_mapA {α : Type} {t : α → Bool} : ∀ {as : List α}, boolsD (as.map fun a => PyData.bool (t a)) = some (as.map t)
  | [] => rfl
  | a :: as => by simp [boolsD, boolsD_mapA (as := as)]
structure PKeeps (F : FnDen) : Prop where
  b : ∀ b v w, b.canLay0 = true → isBoard b = false → F [.d b, .d v, .d w] = .exc 1 [[], [], []]
  n : ∀ p v w, Bd p → needN p v = false → F [.d p.D, .d v, .d w] = .exc 2 [[], [], []]
  f : ∀ p ns w, Bd p → InB (slips p) ns → w.canLay0 = true → areFacts p.D w = false → F [.d p.D, .d (.tuple (intsL ns)), .d w] = .exc 3 [[], [], []]
  k : ∀ p ns fs, Bd p → InB (slips p) ns → FcsOk p fs → F [.d p.D, .d (.tuple (intsL ns)), .d (.tuple (fs.map Fc.D))] = .ret (.d (.bool (fs.all (so (led p ns).2.1 ns)))) [[], [], []]
theorem pr_keeps (h37 : Fn Φ 37 f_need_facts) (h40 : PNeedN (Φ.fn 40)) (h42 : PRows (Φ.fn 42)) (h46 : PSo (Φ.fn 46)) : PKeeps (funOf 5 3 (denSs Φ 0 ir_keeps)) := by
  refine ⟨fun b v w hc hb => ?_, fun p v w hp hv => ?_, fun p ns w hp hn hw hf => ?_, fun p ns fs hp hn hf => ?_⟩
  · have := h40.b b v hc hb
    simp [funOf, ir_keeps, this, outsOf]
  · have := h40.n p v hp hv
    simp [funOf, ir_keeps, this, outsOf]
  · have h1 := h40.k p ns hp hn
    have hc := hp.cl
    have hb := hp.isb
    simp [funOf, ir_keeps, h1, h37, hc, hb, hw, hf, outsOf]
  · have h1 := h40.k p ns hp hn
    have hc := hp.cl
    have hb := hp.isb
    have hw := fcs_cl fs
    have ha := hf.are hp
    have hz := ns_small hp hn
    have h2 := h42 p ns hp (by rw [inB_len hn]; exact Nat.le_refl _) (by omega)
    have hl := (led_len p ns).1
    have hcm := dComp_M Fc.D fs (fun f => .bool (so (led p ns).2.1 ns f)) (fi := denI Φ (.seq (.var 2))) (vs := [4]) (b := setD 4) (fe := den Φ (.call 46 3 [.var 4, .var 3, .var 1])) (e := [some (SV.d p.D), some (.d (.tuple (intsL ns))), some (.d (.tuple (fs.map Fc.D))), some (.d (.list ((led p ns).2.1.map rowD))), none]) (e1 := [some (SV.d p.D), some (.d (.tuple (intsL ns))), some (.d (.tuple (fs.map Fc.D))), some (.d (.list ((led p ns).2.1.map rowD))), none]) (by simp) rfl (szl2 (by have := hf.len; omega))
      (fun f hfm => by
        have h3 := h46 f (led p ns).2.1 ns (by rw [hl, inB_len hn]; exact hf.at_ f hfm)
        exact ⟨[some (SV.d p.D), some (.d (.tuple (intsL ns))), some (.d (.tuple (fs.map Fc.D))), some (.d (.list ((led p ns).2.1.map rowD))), some (.d f.D)], rfl, [some (SV.d p.D), some (.d (.tuple (intsL ns))), some (.d (.tuple (fs.map Fc.D))), some (.d (.list ((led p ns).2.1.map rowD))), some (.d f.D)], by simp [h3], rfl, rfl⟩) rfl
    have hall : allD [.list (fs.map fun f => .bool (so (led p ns).2.1 ns f))] = some (.bool (fs.all (so (led p ns).2.1 ns))) := by
      have hb := boolsD_mapA (as := fs) (t := so (led p ns).2.1 ns)
      simp [allD, hb, List.all_map]
    rw [cl_tuple] at hw
    simp [funOf, ir_keeps, h1, h37, hc, hb, hw, ha, h2, hcm, hall, outsOf]
end K
namespace K
open PySem PySem.Spec L2 Fw
variable {Φ : FEnv}
/-! ### the law's own counters -/
theorem cut_hd {a b c : D} {l : List D} : cutD (a :: b :: c :: l) none (some 3) = [a, b, c] := by
  unfold cutD
  simp [HT.sIx]
/-- the one of a range that is so -/
theorem filter_one {lo hi x : Int} {t : Int → Bool} (h1 : lo ≤ x) (h2 : x < hi) (hx : t x = true) (hn : ∀ y, lo ≤ y → y < hi → y ≠ x → t y = false) : ∀ {as : List Int}, (∀ a ∈ as, lo ≤ a ∧ a < hi) → as.Nodup → x ∈ as → as.filter t = [x] := by
  intro as
  induction as with
  | nil => intro _ _ h; cases h
  | cons a as ih =>
    intro hb hd hm
    rw [List.nodup_cons] at hd
    have none : x ∉ as → as.filter t = [] := fun hx => by
      rw [List.filter_eq_nil_iff]
      intro y hy
      have hb' := hb y (by simp [hy])
      rw [hn y hb'.1 hb'.2 fun e => hx (e ▸ hy)]
      exact Bool.false_ne_true
    by_cases e : a = x
    · subst e
      rw [List.filter_cons_of_pos hx, none hd.1]
    · have ha := hb a (by simp)
      rw [List.filter_cons_of_neg (by rw [hn a ha.1 ha.2 e]; exact Bool.false_ne_true)]
      rcases List.mem_cons.mp hm with h | h
      · exact absurd h.symm e
      · exact ih (fun y hy => hb y (by simp [hy])) hd.2 h
def rangeI (lo hi : Int) : List Int := (List.range (hi - lo).toNat).map fun i : Nat => lo + (i : Int)
theorem rangeI_D (lo hi : Int) : rangeD lo hi = intsL (rangeI lo hi) := by
  unfold rangeD rangeI intsL; rw [List.map_map]; rfl
theorem rangeI_mem {lo hi x : Int} : x ∈ rangeI lo hi ↔ lo ≤ x ∧ x < hi := by
  unfold rangeI
  simp only [List.mem_map, List.mem_range]
  constructor
  · rintro ⟨i, hi, rfl⟩; omega
  · rintro ⟨h1, h2⟩; exact ⟨(x - lo).toNat, by omega, by omega⟩
theorem rangeI_nodup (lo hi : Int) : (rangeI lo hi).Nodup := by
  unfold rangeI
  unfold List.Nodup
  rw [List.pairwise_map]
  exact List.nodup_range.imp fun h e => h (by omega)
theorem rangeI_len (lo hi : Int) : (rangeI lo hi).length = (hi - lo).toNat := by simp [rangeI]
theorem settled_one {lo hi n : Int} (h : lo ≤ hi) : lo ≤ settled true lo hi n ∧ settled true lo hi n < hi + 1 ∧ (settled true lo hi n - n) % (hi - lo + 1) = 0 ∧ ∀ y, lo ≤ y → y < hi + 1 → y ≠ settled true lo hi n → (y - n) % (hi - lo + 1) ≠ 0 := by
  have hm : 0 < hi - lo + 1 := by omega
  generalize hM : hi - lo + 1 = m at *
  have e : settled true lo hi n = lo + (n - lo) % m := by
    unfold settled
    rw [hM]
    split
    · rename_i h1
      have : (n - lo) % m = n - lo := Int.emod_eq_of_lt (by omega) (by omega)
      omega
    · rfl
  rw [e]
  have h1 := Int.emod_nonneg (n - lo) (show m ≠ 0 by omega)
  have h2 := Int.emod_lt_of_pos (n - lo) hm
  have h3 := Int.emod_add_mul_ediv (n - lo) m
  generalize (n - lo) % m = r at *
  generalize (n - lo) / m = k at *
  refine ⟨by omega, by omega, ?_, fun y y1 y2 y3 hy => ?_⟩
  · have : lo + r - n = m * (-k) := by rw [Int.mul_neg]; omega
    rw [this]; exact Int.mul_emod_right _ _
  · obtain ⟨c, hc⟩ := Int.dvd_of_emod_eq_zero hy
    have hd : y - (lo + r) = m * (c + k) := by rw [Int.mul_add]; omega
    rcases Int.lt_trichotomy (c + k) 0 with z | z | z
    · have := Int.mul_le_mul_of_nonneg_left (show c + k ≤ -1 by omega) (show 0 ≤ m by omega)
      rw [Int.mul_neg, Int.mul_one] at this; omega
    · rw [z, Int.mul_zero] at hd; omega
    · have := Int.mul_le_mul_of_nonneg_left (show 1 ≤ c + k by omega) (show 0 ≤ m by omega)
      rw [Int.mul_one] at this; omega
@[simp] def f__law_settled : List D → Option Res
  | [.tuple (.str k :: .int lo :: .int hi :: l), .int n] => if (k = z_stops ∨ k = z_turns) ∧ lo ≤ hi ∧ -1000 ≤ lo ∧ hi ≤ 1000 then some (.ok (.int (settled (k == z_turns) lo hi n))) else none
  | _ => none
theorem ok__law_settled : ∀ args, fnP f__law_settled args ≠ .bad → ∃ j, funOf 6 2 (denSs Φ j ir__law_settled) args = fnP f__law_settled args := fnP_ok fun ds r h => by
  unfold f__law_settled at h
  split at h
  · rename_i k lo hi l n
    split at h
    · rename_i hk
      obtain ⟨hk, h1, h2, h3⟩ := hk
      cases h
      refine ⟨rfl, 0, ?_⟩
      rcases hk with rfl | rfl
      · have e : settled (z_stops == z_turns) lo hi n = (if (if n < hi then n else hi) > lo then (if n < hi then n else hi) else lo) := by
          simp [settled]
          split <;> split <;> (try split) <;> (try split) <;> omega
        rw [e]
        simp [ir__law_settled, cut_hd, maxD, minD]
      · have hm : 0 < hi - lo + 1 := by omega
        have b1 : -4611686018427387904 ≤ lo := by omega
        have b2 : lo < 4611686018427387904 := by omega
        have b3 : -4611686018427387904 ≤ hi + 1 := by omega
        have b4 : hi + 1 < 4611686018427387904 := by omega
        obtain ⟨s1, s2, s3, s4⟩ := settled_one (n := n) h1
        have hf := filter_one (t := fun y => decide ((y - n) % (hi - lo + 1) = 0)) s1 s2 (decide_eq_true s3) (fun y y1 y2 y3 => decide_eq_false (s4 y y1 y2 y3)) (as := rangeI lo (hi + 1)) (fun a ha => rangeI_mem.mp ha) (rangeI_nodup _ _) (rangeI_mem.mpr ⟨s1, s2⟩)
        have hc := dComp_A PyData.int (rangeI lo (hi + 1)) (fun y => decide ((y - n) % (hi - lo + 1) = 0)) (fun y => .int y) (fi := denI Φ (.rng2 (.var 3) (.bin .Add (.var 4) (.cst (.int 1))))) (vs := [5]) (b := setD 5) (ft := some (den Φ (.cmp .Eq (.bin .Mod (.bin .Sub (.var 5) (.var 1)) (.bin .Add (.bin .Sub (.var 4) (.var 3)) (.cst (.int 1)))) (.cst (.int 0))))) (fe := den Φ (.var 5)) (e := [some (SV.d (.tuple (.str z_turns :: .int lo :: .int hi :: l))), some (.d (.int n)), some (.d (.str z_turns)), some (.d (.int lo)), some (.d (.int hi)), none]) (e1 := [some (SV.d (.tuple (.str z_turns :: .int lo :: .int hi :: l))), some (.d (.int n)), some (.d (.str z_turns)), some (.d (.int lo)), some (.d (.int hi)), none])
          (by simp [b1, b2, b3, b4, rangeI_D]) rfl (by rw [rangeI_len]; exact szl2 (by omega))
          (fun y _ => ⟨[some (SV.d (.tuple (.str z_turns :: .int lo :: .int hi :: l))), some (.d (.int n)), some (.d (.str z_turns)), some (.d (.int lo)), some (.d (.int hi)), some (.d (.int y))], rfl, [some (SV.d (.tuple (.str z_turns :: .int lo :: .int hi :: l))), some (.d (.int n)), some (.d (.str z_turns)), some (.d (.int lo)), some (.d (.int hi)), some (.d (.int y))], by simp [hm], rfl, fun _ => ⟨[some (SV.d (.tuple (.str z_turns :: .int lo :: .int hi :: l))), some (.d (.int n)), some (.d (.str z_turns)), some (.d (.int lo)), some (.d (.int hi)), some (.d (.int y))], by simp, rfl⟩⟩) rfl
        rw [hf] at hc
        simp [ir__law_settled, cut_hd, hc]
    · cases h
  · cases h
theorem handed_near {u n : Int} (hu : 2 ≤ u) : (n + u / 2) / u * u = if 2 * (n - (n - n % u)) ≥ u then n - n % u + u else n - n % u := by
  have h1 := Int.emod_nonneg n (show u ≠ 0 by omega)
  have h2 := Int.emod_lt_of_pos n (show 0 < u by omega)
  have h3 := Int.emod_add_mul_ediv n u
  generalize n % u = r at *
  generalize n / u = k at *
  have e : n = r + u * k := h3.symm
  subst e
  have hd : 2 * (u / 2) ≤ u ∧ u < 2 * (u / 2) + 2 := by omega
  have e1 : (r + u * k + u / 2) / u = k + (r + u / 2) / u := by
    rw [show r + u * k + u / 2 = r + u / 2 + u * k by omega, Int.add_mul_ediv_left _ _ (show u ≠ 0 by omega), Int.add_comm]
  rw [e1]
  have e2 : r + u * k - (r + u * k - r) = r := by omega
  rw [e2]
  split
  · have : (r + u / 2) / u = 1 := by
      rw [Int.ediv_eq_iff_of_pos (by omega)] <;> omega
    rw [this, Int.add_mul, Int.mul_comm]; omega
  · have : (r + u / 2) / u = 0 := Int.ediv_eq_zero_of_lt (by omega) (by omega)
    rw [this, Int.add_zero, Int.mul_comm]; omega
theorem handed_down {u n : Int} (hu : 2 ≤ u) : n / u * u = n - n % u := by
  have h3 := Int.emod_add_mul_ediv n u
  rw [Int.mul_comm]; omega
@[simp] def f__law_handed : List D → Option Res
  | [.tuple [], .int n] => some (.ok (.int n))
  | [.tuple [.str w, .int u], .int n] => if PyData.canLay0 (.str w) = true ∧ 2 ≤ u ∧ u < 1000 then some (.ok (.int (handed (.mk (w == z_near) u) n))) else none
  | _ => none
theorem ok__law_handed : ∀ args, fnP f__law_handed args ≠ .bad → ∃ j, funOf 3 2 (denSs Φ j ir__law_handed) args = fnP f__law_handed args := fnP_ok fun ds r h => by
  unfold f__law_handed at h
  split at h
  · cases h
    exact ⟨rfl, 0, by simp [ir__law_handed, eqD, okPair]⟩
  · rename_i w u n
    split at h
    · rename_i hk
      obtain ⟨hk, hu, hu2⟩ := hk
      cases h
      refine ⟨rfl, 0, ?_⟩
      have b1 : 0 < u := by omega
      unfold handed
      cases hw : (w == z_near)
      · simp [ir__law_handed, eqD, okPair, PyData.eqvAll, handed_down hu, *]
      · simp only [if_true]
        rw [handed_near hu]
        cases h2 : decide (u ≤ 2 * (n - (n - n % u))) <;> simp [ir__law_handed, eqD, okPair, PyData.eqvAll, *]
        all_goals (intro z; first | (have := of_decide_eq_true h2; omega) | (exact absurd z (of_decide_eq_false h2)))
    · cases h
  · cases h
theorem f__law_handed_D {hd : Hd} (h : hd.ok) (n : Int) : f__law_handed [hd.D, .int n] = some (.ok (.int (handed hd n))) := by
  cases hd with
  | no => rfl
  | mk near u =>
    obtain ⟨h1, h2⟩ := h
    have b : u < 1000 := by omega
    simp [Hd.D, h1, b, hand_eq]
end K
namespace K
open PySem PySem.Spec L2 Fw
variable {Φ : FEnv}
def PLawLed (n : Nat) (F : FnDen) : Prop := ∀ (t : Bool) (lo hi : Int) (hd : Hd) (ps : List Pt), PtOk n (.ctr t lo hi hd ps) → ∀ (ns : List Int), (slipsL ps).length < ns.length → ns.length ≤ 1000 → (ctrs (.ctr t lo hi hd ps)).length ≤ 1000 →
  F [.d (Pt.ctr t lo hi hd ps).D, .d (.tuple (intsL ns))] = .ret (.d (.tuple [.list ((led (.ctr t lo hi hd ps) ns).2.1.map rowD), .tuple (intsL (led (.ctr t lo hi hd ps) ns).2.2)])) [[], []]
theorem plawled_zero {F : FnDen} : PLawLed 0 F := fun t lo hi hd ps h => h.elim
structure YSt where
  s : LSt
  a : Option D
  b : Option D
  c : Option D
  d : Option D
  e : Option D
def lawLedBody : List IS := [.par [6, 7] [.v (.ix (.var 1) (.cst (.int 0))), .v (.sl (.var 1) (.cst (.int 1)) (.hole))], .ifs (.cmp .Eq (.prim .len [.var 5]) (.cst (.int 5))) [.asg (.tup [.name 8, .name 7]) (.call 50 2 [.var 5, .var 1]), .par [4, 6] [.v (.bin .Add (.var 4) (.var 8)), .v (.call 49 2 [.ix (.var 5) (.cst (.int 3)), .ix (.ix (.var 8) (.cst (.int 0))) (.cst (.int 0))])]] [], .par [1, 9] [.v (.var 7), .v (.call 48 2 [.var 0, .bin .Add (.var 2) (.var 6)])], .par [2, 3] [.v (.var 9), .v (.or (.var 3) (.cmp .NotEq (.var 9) (.bin .Add (.var 2) (.var 6))))]]
theorem kindS_or (t : Bool) : kindS t = z_stops ∨ kindS t = z_turns := by cases t <;> simp [kindS]
theorem led_head' {t : Bool} {lo hi : Int} {hd : Hd} {ps : List Pt} (ns : List Int) : ∃ c rs, (led (.ctr t lo hi hd ps) ns).2.1 = ((led (.ctr t lo hi hd ps) ns).1, c) :: rs := by
  rw [led_c]; exact ⟨_, _, rfl⟩
theorem lawled_loop {n : Nat} (h50 : PLawLed n (Φ.fn 50)) (h49 : Fn Φ 49 f__law_handed) (h48 : Fn Φ 48 f__law_settled) {t : Bool} {lo hi : Int} (hlh : lo ≤ hi ∧ -99 ≤ lo ∧ hi ≤ 99) {ps : List Pt} (hps : ∀ p ∈ ps, PtOk n p) {ns : List Int} {ds : List D}
    (h1 : (slipsL ps).length < ns.length) (h2 : ns.length ≤ 1000) (h3 : (ctrsL ps).length ≤ 1000) :
    ∃ a b c d e, forL (setD 5) (denSs Φ 0 lawLedBody) (ps.map Pt.D) [some (.d (.tuple (.str (kindS t) :: .int lo :: .int hi :: ds))), some (.d (.tuple (intsL ns))), some (.d (.int 0)), some (.d (.bool false)), some (.d (.list [])), none, none, none, none, none] =
      .nx [some (.d (.tuple (.str (kindS t) :: .int lo :: .int hi :: ds))), some (.d (.tuple (intsL (ps.foldl (ledS t lo hi) ⟨0, false, [], ns⟩).ns))), some (.d (.int (ps.foldl (ledS t lo hi) ⟨0, false, [], ns⟩).now)), some (.d (.bool (ps.foldl (ledS t lo hi) ⟨0, false, [], ns⟩).ca)), some (.d (.list ((ps.foldl (ledS t lo hi) ⟨0, false, [], ns⟩).rs.map rowD))), a, b, c, d, e] := by
  obtain ⟨hlh, hl9, hh9⟩ := hlh
  have key := forL_map (α := Pt) Pt.D (fun (x : YSt) => [some (SV.d (.tuple (.str (kindS t) :: .int lo :: .int hi :: ds))), some (.d (.tuple (intsL x.s.ns))), some (.d (.int x.s.now)), some (.d (.bool x.s.ca)), some (.d (.list (x.s.rs.map rowD))), x.a.map SV.d, x.b.map SV.d, x.c.map SV.d, x.d.map SV.d, x.e.map SV.d])
    (fun x p => ⟨ledS t lo hi x.s p, some p.D, some (.int (handedP p (led p x.s.ns).1)), some (.tuple (intsL (ledS t lo hi x.s p).ns)), (match p with | .slip .. => x.d | .ctr .. => some (.list ((led p x.s.ns).2.1.map rowD))), some (.int (ledS t lo hi x.s p).now)⟩) (fun x as => (∀ p ∈ as, PtOk n p) ∧ (slipsL as).length < x.s.ns.length ∧ x.s.ns.length ≤ 1000 ∧ x.s.rs.length + (ctrsL as).length ≤ 1000) (b := setD 5) (f := denSs Φ 0 lawLedBody) (as := ps) (s := ⟨⟨0, false, [], ns⟩, none, none, none, none, none⟩) (fun x p as hx => ?_) ⟨hps, h1, h2, by simpa using h3⟩
  · have e : ∀ (ps : List Pt) (x : YSt), ∃ a b c d e, ps.foldl (fun (x : YSt) p => (⟨ledS t lo hi x.s p, some p.D, some (.int (handedP p (led p x.s.ns).1)), some (.tuple (intsL (ledS t lo hi x.s p).ns)), (match p with | .slip .. => x.d | .ctr .. => some (.list ((led p x.s.ns).2.1.map rowD))), some (.int (ledS t lo hi x.s p).now)⟩ : YSt)) x = ⟨ps.foldl (ledS t lo hi) x.s, a, b, c, d, e⟩ := fun ps => by
      induction ps with
      | nil => exact fun x => ⟨x.a, x.b, x.c, x.d, x.e, rfl⟩
      | cons p ps ih => exact fun x => ih _
    obtain ⟨a, b, c, d, e', e⟩ := e ps ⟨⟨0, false, [], ns⟩, none, none, none, none, none⟩
    rw [e] at key
    exact ⟨_, _, _, _, _, key⟩
  · obtain ⟨⟨now, ca, rs, ms⟩, a, b, c, d, e⟩ := x
    obtain ⟨k1, k2, k3, k4⟩ := hx
    have k3' : ms.length ≤ 1000 := k3
    have k4' : rs.length + (ctrsL (p :: as)).length ≤ 1000 := k4
    obtain ⟨m, ms', rfl⟩ : ∃ m ms', ms = m :: ms' := by
      cases ms with
      | nil => simp at k2
      | cons m ms' => exact ⟨m, ms', rfl⟩
    have b1 : -1000 ≤ lo := by omega
    have b2 : hi ≤ 1000 := by omega
    have kk := kindS_or t
    refine ⟨[some (SV.d (.tuple (.str (kindS t) :: .int lo :: .int hi :: ds))), some (.d (.tuple (intsL (m :: ms')))), some (.d (.int now)), some (.d (.bool ca)), some (.d (.list (rs.map rowD))), some (.d p.D), b.map SV.d, c.map SV.d, d.map SV.d, e.map SV.d], by cases a <;> rfl, ?_, fun p' hp' => k1 p' (by simp [hp']), ?_, ?_, ?_⟩
    · have hp := k1 p (by simp)
      cases p with
      | slip l h =>
        have hS : ledS t lo hi ⟨now, ca, rs, m :: ms'⟩ (.slip l h) = ⟨settled t lo hi (now + m), ca || !decide (settled t lo hi (now + m) = now + m), rs, ms'⟩ := by simp [ledS, handedP]
        rw [hS]
        generalize hw : settled t lo hi (now + m) = th
        cases ca <;> simp [lawLedBody, cut_tail, kind_eq, handedP, *]
      | ctr t2 lo2 hi2 hd2 ps2 =>
        have h50' := h50 t2 lo2 hi2 hd2 ps2 hp (m :: ms') (by simp at k2 ⊢; omega) k3 (by simp at k4' ⊢; omega)
        obtain ⟨cc, rs2, hrs⟩ := led_head' (t := t2) (lo := lo2) (hi := hi2) (hd := hd2) (ps := ps2) (m :: ms')
        have hll := (led_len (.ctr t2 lo2 hi2 hd2 ps2) (m :: ms')).1
        rcases hl : led (.ctr t2 lo2 hi2 hd2 ps2) (m :: ms') with ⟨m2, rs', ms2⟩
        rw [hl] at h50' hrs hll
        dsimp only at hrs hll
        subst hrs
        have hok : hd2.ok := by cases n with | zero => exact hp.elim | succ n => exact hp.1.hd
        have hh := f__law_handed_D hok m2
        have hS : ledS t lo hi ⟨now, ca, rs, m :: ms'⟩ (.ctr t2 lo2 hi2 hd2 ps2) = ⟨settled t lo hi (now + handed hd2 m2), ca || !decide (settled t lo hi (now + handed hd2 m2) = now + handed hd2 m2), rs ++ (m2, cc) :: rs2, ms2⟩ := by simp [ledS, handedP, hl]
        rw [hS]
        generalize hw : settled t lo hi (now + handed hd2 m2) = th
        rw [D_ctr] at h50' ⊢
        simp only [intsL, List.map_cons, rowD] at h50'
        have hz : rs.length + (rs2.length + 1) ≤ sizeLine := szl2 (by simp at k4' hll; omega)
        cases ca <;> simp [lawLedBody, cut_tail, kind_eq, handedP, hl, rowD, -f__law_handed, *]
    · obtain ⟨h1', h2'⟩ := led_len p (m :: ms')
      show _ < (led p (m :: ms')).2.2.length
      rw [h2', List.length_drop]
      simp at k2 ⊢; omega
    · obtain ⟨h1', h2'⟩ := led_len p (m :: ms')
      show (led p (m :: ms')).2.2.length ≤ 1000
      rw [h2', List.length_drop]; omega
    · obtain ⟨h1', h2'⟩ := led_len p (m :: ms')
      show (rs ++ (led p (m :: ms')).2.1).length + _ ≤ 1000
      rw [List.length_append, h1']
      simp at k4'; omega
theorem pr__law_led {n : Nat} (h50 : PLawLed n (Φ.fn 50)) (h49 : Fn Φ 49 f__law_handed) (h48 : Fn Φ 48 f__law_settled) : PLawLed (n + 1) (funOf 10 2 (denSs Φ 0 ir__law_led)) := by
  intro t lo hi hd ps hp ns h1 h2 h3
  obtain ⟨hc, hps⟩ := hp
  simp only [ctrs_c, List.length_cons] at h3
  obtain ⟨a, b, c, d, e, hl⟩ := lawled_loop (n := n) h50 h49 h48 (t := t) (lo := lo) (hi := hi) (by have := hc.h; have := hc.l; omega) hps (ns := ns) (ds := [hd.D, .tuple (ps.map Pt.D)]) h1 h2 (by omega)
  have hz : (ps.foldl (ledS t lo hi) ⟨0, false, [], ns⟩).rs.length + 1 ≤ sizeLine := by
    have := (ledL_len t lo hi ps ⟨0, false, [], ns⟩).1
    rw [ledL_fold] at this
    rw [this]
    exact szl2 (by simp; omega)
  rw [led_c]
  have e : ir__law_led = [.par [2, 3, 4] [.v (.cst (.int 0)), .v (.cst (.bool false)), .v (.lst [])], .for_ (.name 5) (.seq (.ix (.var 0) (.cst (.int 4)))) lawLedBody, .ret (.tup [.bin .Add (.lst [.tup [.var 2, .var 3]]) (.var 4), .var 1])] := rfl
  rw [e, D_ctr]
  have hz' : 1 + (ps.foldl (ledS t lo hi) ⟨0, false, [], ns⟩).rs.length ≤ sizeLine := by omega
  simp [funOf, hl, outsOf, rowD, addD, hz, hz']
def PLawRows (F : FnDen) : Prop := ∀ p ns, Bd p → (slips p).length ≤ ns.length → ns.length ≤ 500 → F [.d p.D, .d (.tuple (intsL ns))] = .ret (.d (.list ((led p ns).2.1.map rowD))) [[], []]
/-- what comes behind the numbers changes nothing -/
theorem led_more : ∀ {n : Nat} {p : Pt} {ns : List Int} (x : List Int), PtOk n p → (slips p).length ≤ ns.length → (led p (ns ++ x)).1 = (led p ns).1 ∧ (led p (ns ++ x)).2.1 = (led p ns).2.1
  | _, .slip l h, ns, x, _, hl => by
    cases ns with
    | nil => simp at hl
    | cons m ms => simp
  | 0, .ctr .., _, _, h, _ => h.elim
  | n + 1, .ctr t lo hi hd ps, ns, x, hp, hl => by
    rw [slips_c] at hl
    have key : ∀ (ps : List Pt) (s : LSt), (∀ p ∈ ps, PtOk n p) → (slipsL ps).length ≤ s.ns.length →
        ps.foldl (ledS t lo hi) ⟨s.now, s.ca, s.rs, s.ns ++ x⟩ = ⟨(ps.foldl (ledS t lo hi) s).now, (ps.foldl (ledS t lo hi) s).ca, (ps.foldl (ledS t lo hi) s).rs, (ps.foldl (ledS t lo hi) s).ns ++ x⟩ := by
      intro ps
      induction ps with
      | nil => exact fun s _ _ => rfl
      | cons p ps ih =>
        intro s hps hs
        rw [slipsL_c, List.length_append] at hs
        obtain ⟨e1, e2⟩ := led_more (n := n) (p := p) (ns := s.ns) x (hps p (by simp)) (by omega)
        have e3 : (led p (s.ns ++ x)).2.2 = (led p s.ns).2.2 ++ x := by
          rw [(led_len p _).2, (led_len p _).2, List.drop_append_of_le_length (by omega)]
        rw [List.foldl_cons, List.foldl_cons]
        have hS : ledS t lo hi ⟨s.now, s.ca, s.rs, s.ns ++ x⟩ p = ⟨(ledS t lo hi s p).now, (ledS t lo hi s p).ca, (ledS t lo hi s p).rs, (ledS t lo hi s p).ns ++ x⟩ := by
          simp only [ledS, e1, e2, e3]
        rw [hS]
        exact ih _ (fun q hq => hps q (by simp [hq])) (by
          show _ ≤ (led p s.ns).2.2.length
          rw [(led_len p _).2, List.length_drop]; omega)
    have := key ps ⟨0, false, [], ns⟩ hp.2 hl
    rw [led_c, led_c, this]
    exact ⟨rfl, rfl⟩
theorem pr__law_rows (h50 : PLawLed 3 (Φ.fn 50)) : PLawRows (funOf 2 2 (denSs Φ 0 ir__law_rows)) := by
  intro p ns hp hl hz
  obtain ⟨t, lo, hi, ps, rfl⟩ := hp.ok.top
  have hm := (led_more (n := 3) (ns := ns) [0] hp.ok.ok hl).2
  have h := h50 t lo hi .no ps hp.ok.ok (ns ++ [0]) (by simp at hl ⊢; omega) (by simp; omega) (by have := hp.ok.c; omega)
  rw [hm] at h
  have hs : ns.length + 1 ≤ sizeLine := szl2 (by omega)
  simp at h
  simp [funOf, ir__law_rows, addD, hs, h, outsOf]
def PLawSo (F : FnDen) : Prop := PSo F
theorem pr__law_so : PSo (funOf 4 3 (denSs Φ 0 ir__law_so)) := by
  intro f rows ns h
  cases f with
  | caught i b =>
    have e := atI_rows (show i < rows.length from h)
    simp [funOf, ir__law_so, Fc.D, so, e, rowD, eqD_bool, outsOf]
  | slip i lo hi =>
    have e := atI_ints (show i < ns.length from h.1)
    have hs : so rows ns (.slip i lo hi) = (decide (lo ≤ ns.getD i 0) && decide (ns.getD i 0 ≤ hi)) := rfl
    rw [hs]
    generalize ns.getD i 0 = n at *
    cases h1 : decide (lo ≤ n) <;> simp [funOf, ir__law_so, Fc.D, e, outsOf, h1, -decide_eq_true_eq, -decide_eq_false_iff_not]
  | shows i lo hi =>
    have e := atI_rows (show i < rows.length from h.1)
    have hs : so rows ns (.shows i lo hi) = (decide (lo ≤ (rows.getD i (0, false)).1) && decide ((rows.getD i (0, false)).1 ≤ hi)) := rfl
    rw [hs]
    generalize rows.getD i (0, false) = n at *
    cases h1 : decide (lo ≤ n.1) <;> simp [funOf, ir__law_so, Fc.D, e, outsOf, h1, rowD, -decide_eq_true_eq, -decide_eq_false_iff_not]
end K
namespace K
open PySem PySem.Spec L2 Fw
variable {Φ : FEnv}
def numStep (v : Vt) : D → D × Vt
  | .tuple [.int l, .int h] => (.int (l + (underV v (h - l + 1)).1), (underV v (h - l + 1)).2)
  | _ => (.none, v)
def PNumbers (F : FnDen) : Prop := ∀ p, Bd p → ∀ (q : Bool) (v : Vt), ∃ (ns : List Int) (w : Vt), InB (slips p) ns ∧ F [.own q [.int v.1, .int v.2], .d p.D] = .ret (.d (.tuple (intsL ns))) [[.int w.1, .int w.2], []]
theorem slips_ok : ∀ {n : Nat} {p : Pt}, PtOk n p → ∀ s ∈ slips p, -20 ≤ s.1 ∧ s.1 ≤ s.2 ∧ s.2 ≤ 20
  | n, .slip l h, hp, s, hs => by
    rw [slips_s, List.mem_singleton] at hs
    subst hs
    cases n <;> exact hp
  | 0, .ctr .., hp, _, _ => hp.elim
  | n + 1, .ctr t lo hi hd ps, hp, s, hs => by
    rw [slips_c] at hs
    have h2 := hp.2
    clear hp
    induction ps with
    | nil => simp at hs
    | cons p ps ih =>
      rw [slipsL_c, List.mem_append] at hs
      rcases hs with hs | hs
      · exact slips_ok (h2 p (by simp)) s hs
      · exact ih hs fun q hq => h2 q (by simp [hq])
theorem num_run : ∀ (ss : List (Int × Int)) (v : Vt), (∀ s ∈ ss, s.1 ≤ s.2) → ∃ ns, (stRun numStep v (ss.map slD2)).1 = intsL ns ∧ InB ss ns
  | [], v, _ => ⟨[], rfl, trivial⟩
  | s :: ss, v, h => by
    obtain ⟨ns, h1, h2⟩ := num_run ss (underV v (s.2 - s.1 + 1)).2 fun x hx => h x (by simp [hx])
    have hs := h s (by simp)
    obtain ⟨u0, u1⟩ := under_lt v (m := s.2 - s.1 + 1) (by omega)
    refine ⟨(s.1 + (underV v (s.2 - s.1 + 1)).1) :: ns, ?_, by omega, by omega, h2⟩
    show _ :: (stRun numStep _ (ss.map slD2)).1 = _
    rw [show (numStep v (slD2 s)).2 = (underV v (s.2 - s.1 + 1)).2 from rfl, h1]
    rfl
theorem pr__law_numbers (h13 : FnV Φ 13 f__law_under) (h22 : Fn Φ 22 (f__law_slips 4)) : PNumbers (funOf 4 2 (denSs Φ 0 ir__law_numbers)) := by
  intro p hp q v
  have hok := slips_ok hp.ok.ok
  obtain ⟨ns, h1, h2⟩ := num_run (slips p) v fun s hs => (hok s hs).2.1
  refine ⟨ns, (stRun numStep v ((slips p).map slD2)).2, h2, ?_⟩
  have ho := board_ok hp.isb
  have hs := hp.slN
  have hc := dComp_st (fun (w : Vt) => [some (SV.own q [.int w.1, .int w.2]), some (SV.d p.D), none, none]) numStep (fun _ ds => ∀ d ∈ ds, ∃ s : Int × Int, d = slD2 s ∧ -20 ≤ s.1 ∧ s.1 ≤ s.2 ∧ s.2 ≤ 20) v
    (fi := denI Φ (.seq (.call 22 1 [.var 1]))) (vs := [2, 3]) (b := bTup 2 (bCons (setD 2) (bCons (setD 3) bNil))) (fe := den Φ (.bin .Add (.var 2) (.call 13 2 [.peek 0, .bin .Add (.bin .Sub (.var 3) (.var 2)) (.cst (.int 1))]))) (e := [some (SV.own q [.int v.1, .int v.2]), some (SV.d p.D), none, none])
    (e1 := [some (SV.own q [.int v.1, .int v.2]), some (SV.d p.D), none, none]) (ds := (slips p).map slD2) (by simp [h22, ho, hs]) rfl rfl (fun d hd => by
      obtain ⟨s, hs, rfl⟩ := List.mem_map.mp hd
      exact ⟨s, rfl, hok s hs⟩) (by rw [List.length_map]; exact szl2 (by have := hp.ok.s.2; omega))
    (fun s d ds h => by
      obtain ⟨⟨l, hh⟩, rfl, k1, k2, k3⟩ := h d (by simp)
      have b1 : 0 < hh - l + 1 := by omega
      have b2 : hh - l + 1 < 1073741824 := by omega
      exact ⟨[some (SV.own q [.int s.1, .int s.2]), some (SV.d p.D), some (.d (.int l)), some (.d (.int hh))], by simp [slD2], [some (SV.own q [.int (numStep s (slD2 (l, hh))).2.1, .int (numStep s (slD2 (l, hh))).2.2]), some (SV.d p.D), some (.d (.int l)), some (.d (.int hh))], by simp [numStep, slD2, h13, b1, b2], rfl, fun x hx => h x (by simp [hx])⟩)
  rw [h1] at hc
  simp [funOf, ir__law_numbers, hc, outsOf]
/-! ### wrong values are refused -/
theorem neD_strs {a b : List Str} (ha : ∀ s ∈ a, PyData.canLay0 (.str s) = true) (hb : ∀ s ∈ b, PyData.canLay0 (.str s) = true) (h : a = b) : neD (.list (a.map PyData.str)) (.list (b.map PyData.str)) = some (.bool false) := by
  subst h
  exact neD_self (n := a.length) (m := 1) (Sz.lst (m := 0) (by simp) fun d hd => by obtain ⟨s, hs, rfl⟩ := List.mem_map.mp hd; exact .str (ha s hs)) (by omega)
theorem first_slip {p : Pt} (hp : Bd p) : ∃ s ss, slips p = s :: ss ∧ s.2 ≤ 20 := by
  have h := hp.ok.s.1
  cases hs : slips p with
  | nil => rw [hs] at h; simp at h
  | cons s ss => exact ⟨s, ss, rfl, (slips_ok hp.ok.ok s (by rw [hs]; simp)).2.2⟩
theorem odds_bad {p : Pt} (hp : Bd p) {ns : List Int} (hn : InB (slips p) ns) : ∀ d ∈ ([.none, .list (intsL ns), .tuple (intsL ns.tail), .tuple (intsL ns ++ [.int 0]), .tuple (List.replicate ns.length (.bool true)), .tuple (.int 21 :: intsL ns.tail)] : List D), needN p d = false := by
  obtain ⟨s, ss, hs, h20⟩ := first_slip hp
  have hl := inB_len hn
  rw [hs] at hn hl
  cases ns with
  | nil => simp at hl
  | cons m ms =>
    intro d hd
    have lenb : ∀ ds : List D, ds.length ≠ (s :: ss).length → numsOk (slips p) ds = false := fun ds h => by
      rw [hs]
      cases q : numsOk (s :: ss) ds with
      | false => rfl
      | true => exact absurd (numsOk_len q) h
    simp only [List.mem_cons, List.not_mem_nil, or_false] at hd
    simp only [List.length_cons] at hl
    rcases hd with rfl | rfl | rfl | rfl | rfl | rfl
    · rfl
    · rfl
    · exact lenb _ (by simp; omega)
    · exact lenb _ (by simp; omega)
    · show numsOk (slips p) _ = false
      rw [hs]
      rfl
    · show numsOk (slips p) _ = false
      rw [hs]
      show (isWhole (.int 21) s.1 s.2 && _) = false
      have : ¬ 21 ≤ s.2 := by omega
      simp [isWhole, this]
structure RefOk (Φ : FEnv) : Prop where
  n1 : Φ.nm 0 1 = some (.str z_board_value)
  n2 : Φ.nm 0 2 = some (.str z_numbers_value)
  n3 : Φ.nm 0 3 = some (.str z_facts_value)
def refBody : List IS := [.asg (.name 5) (.lst [.att 0 (.call 43 2 [.var 1, .var 4]), .att 0 (.call 44 2 [.var 1, .var 4])]), .asg (.name 5) (.bin .Add (.var 5) (.lst [.att 0 (.call 45 2 [.var 1, .var 4]), .att 0 (.call 47 3 [.var 1, .var 4, .cst .none])])), .ifs (.cmp .NotEq (.var 5) (.bin .Mult (.lst [.cst (.str z_numbers_value)]) (.cst (.int 4)))) [.ret (.cst (.bool false))] []]
def refTail : List IS := [.asg (.name 5) (.comp (.att 0 (.call 47 3 [.var 1, .var 2, .var 4])) (.name 4) (.seq (.lst [.cst .none, .lst [], .tup [.cst (.int 5)], .tup [.tup [.cst (.str z_caught), .cst (.int 9), .cst (.bool true)]]])) (.hole) [4]), .ifs (.or (.cmp .NotEq (.var 5) (.bin .Mult (.lst [.cst (.str z_facts_value)]) (.cst (.int 4)))) (.cmp .NotEq (.att 0 (.call 43 2 [.cst .none, .cst .none])) (.cst (.str z_board_value)))) [.ret (.cst (.bool false))] [], .ifs (.cmp .NotEq (.att 0 (.call 47 3 [.sl (.var 1) (.hole) (.cst (.int 4)), .cst .none, .cst .none])) (.cst (.str z_board_value))) [.ret (.cst (.bool false))] [], .ret (.cst (.bool true))]
theorem neD_str4 {s : Str} (h : PyData.canLay0 (.str s) = true) : neD (.list [.str s, .str s, .str s, .str s]) (.list [.str s, .str s, .str s, .str s]) = some (.bool false) := neD_strs (a := [s, s, s, s]) (by simp [h]) (by simp [h]) rfl
theorem ref_body (hn : RefOk Φ) (h43 : PRef (Φ.fn 43)) (h44 : PRef (Φ.fn 44)) (h45 : PRef (Φ.fn 45)) (h47 : PKeeps (Φ.fn 47)) {p : Pt} (hp : Bd p) {d : D} (hd : needN p d = false) {x y z : Option SV} {b : Option D} :
    denSs Φ 0 refBody [x, some (.d p.D), y, z, some (.d d), b.map SV.d] = .nx [x, some (.d p.D), y, z, some (.d d), some (.d (.list [.str z_numbers_value, .str z_numbers_value, .str z_numbers_value, .str z_numbers_value]))] := by
  have e1 := h43.n p d hp hd
  have e2 := h44.n p d hp hd
  have e3 := h45.n p d hp hd
  have e4 := h47.n p d .none hp hd
  have n4 := neD_str4 (s := z_numbers_value) (by simp)
  simp [refBody, e1, e2, e3, e4, hn.n2, addD, mulD, n4]
theorem bad_facts {p : Pt} (hp : Bd p) : ∀ d ∈ ([.none, .list [], .tuple [.int 5], .tuple [.tuple [.str z_caught, .int 9, .bool true]]] : List D), d.canLay0 = true ∧ areFacts p.D d = false := by
  intro d hd
  simp only [List.mem_cons, List.not_mem_nil, or_false] at hd
  have hc := hp.ok.c
  rcases hd with rfl | rfl | rfl | rfl
  · exact ⟨rfl, rfl⟩
  · exact ⟨rfl, rfl⟩
  · exact ⟨by simp, by simp [areFacts, factOf, isFact]⟩
  · refine ⟨by simp, ?_⟩
    unfold areFacts factOf
    rw [hp.slN, hp.ctN, List.length_map, List.length_map]
    have h1 : ¬ ((9 : Int) ≤ (ctrs p).length - 1) := by omega
    simp [isFact, isWhole, many, h1]
theorem ref_tail (hn : RefOk Φ) (h43 : PRef (Φ.fn 43)) (h47 : PKeeps (Φ.fn 47)) {p : Pt} (hp : Bd p) {ns : List Int} (hns : InB (slips p) ns) {q : Bool} {v : List D} {z : D} {b w : Option D} :
    ∃ e, denSs Φ 0 refTail [some (.own q v), some (.d p.D), some (.d (.tuple (intsL ns))), some (.d z), b.map SV.d, w.map SV.d] = .rt (.d (.bool true)) (some (.own q v) :: e) ∧ 1 ≤ e.length := by
  have hf := bad_facts hp
  have hc := dComp_M (fun d => d) ([.none, .list [], .tuple [.int 5], .tuple [.tuple [.str z_caught, .int 9, .bool true]]] : List D) (fun _ => .str z_facts_value) (fi := denI Φ (.seq (.lst [.cst .none, .lst [], .tup [.cst (.int 5)], .tup [.tup [.cst (.str z_caught), .cst (.int 9), .cst (.bool true)]]]))) (vs := [4]) (b := setD 4) (fe := den Φ (.att 0 (.call 47 3 [.var 1, .var 2, .var 4])))
    (e := [some (.own q v), some (.d p.D), some (.d (.tuple (intsL ns))), some (.d z), b.map SV.d, w.map SV.d]) (e1 := [some (.own q v), some (.d p.D), some (.d (.tuple (intsL ns))), some (.d z), b.map SV.d, w.map SV.d]) (by simp) (by cases b <;> rfl) (szl2 (by simp))
    (fun d hd => by
      obtain ⟨h1, h2⟩ := hf d hd
      have h3 := h47.f p ns d hp hns h1 h2
      exact ⟨[some (.own q v), some (.d p.D), some (.d (.tuple (intsL ns))), some (.d z), some (.d d), w.map SV.d], by simp, [some (.own q v), some (.d p.D), some (.d (.tuple (intsL ns))), some (.d z), some (.d d), w.map SV.d], by simp [h3, hn.n3], rfl, rfl⟩) (by simp)
  have e1 := h43.b .none .none rfl rfl
  obtain ⟨t, lo, hi, ps, rfl⟩ := hp.ok.top
  have e2 := h47.b (.tuple [.str (kindS t), .int lo, .int hi, Hd.no.D]) .none .none (by simp [Hd.D]) rfl
  have hcut : cutD [.str (kindS t), .int lo, .int hi, Hd.no.D, .tuple (ps.map Pt.D)] none (some 4) = [.str (kindS t), .int lo, .int hi, Hd.no.D] := by simp [cutD, HT.sIx]
  have n4 := neD_str4 (s := z_facts_value) (by simp)
  rw [D_ctr] at hc
  simp at hc
  refine ⟨[some (.d (.tuple [.str (kindS t), .int lo, .int hi, Hd.no.D, .tuple (ps.map Pt.D)])), some (.d (.tuple (intsL ns))), some (.d z), b.map SV.d, some (.d (.list [.str z_facts_value, .str z_facts_value, .str z_facts_value, .str z_facts_value]))], ?_, by simp⟩
  rw [D_ctr]
  simp [refTail, hc, e1, e2, hcut, hn.n1, mulD, n4]
def PRefused (F : FnDen) : Prop := ∀ p, Bd p → ∀ (q : Bool) (v : Vt), ∃ w : Vt, F [.own q [.int v.1, .int v.2], .d p.D] = .ret (.d (.bool true)) [[.int w.1, .int w.2], []]
theorem pr__law_refused (hn : RefOk Φ) (h43 : PShown (Φ.fn 43)) (h44 : PCaught (Φ.fn 44)) (h45 : POff (Φ.fn 45)) (h47 : PKeeps (Φ.fn 47)) (h53 : PNumbers (Φ.fn 53)) : PRefused (funOf 6 2 (denSs Φ 0 ir__law_refused)) := by
  intro p hp q v
  obtain ⟨ns, ⟨w1, w2⟩, hns, h1⟩ := h53 p hp true v
  refine ⟨(w1, w2), ?_⟩
  have hz := ns_small hp hns
  have hlen := inB_len hns
  have h0 := hp.ok.s.1
  obtain ⟨m, ms, rfl⟩ : ∃ m ms, ns = m :: ms := by
    cases ns with
    | nil => simp at hlen; omega
    | cons m ms => exact ⟨m, ms, rfl⟩
  have ho := odds_bad hp hns
  generalize hod : ([.none, .list (intsL (m :: ms)), .tuple (intsL (m :: ms).tail), .tuple (intsL (m :: ms) ++ [.int 0]), .tuple (List.replicate (m :: ms).length (.bool true)), .tuple (.int 21 :: intsL (m :: ms).tail)] : List D) = odds at ho
  obtain ⟨e', hl, b, ww, he⟩ := forL_inv (fun e => ∃ b ww : Option D, e = [some (.own q [.int w1, .int w2]), some (.d p.D), some (.d (.tuple (intsL (m :: ms)))), some (.d (.list odds)), b.map SV.d, ww.map SV.d]) (b := setD 4) (f := denSs Φ 0 refBody) (ds := odds) (e := [some (.own q [.int w1, .int w2]), some (.d p.D), some (.d (.tuple (intsL (m :: ms)))), some (.d (.list odds)), none, none])
    (fun d hd e ⟨b, ww, he⟩ => by
      subst he
      exact ⟨_, by simp, _, .inl (ref_body hn h43.toPRef h44.toPRef h45.toPRef h47 hp (ho d hd) (b := ww)), some d, some _, rfl⟩) ⟨none, none, rfl⟩
  subst he
  obtain ⟨e2, ht, hle⟩ := ref_tail hn h43.toPRef h47 hp hns (q := q) (v := [.int w1, .int w2]) (z := .list odds) (b := b) (w := ww)
  have e : ir__law_refused = [.asg (.name 2) (.call 53 2 [.peek 0, .var 1]), .asg (.name 3) (.lst [.cst .none, .prim .list [.var 2], .sl (.var 2) (.cst (.int 1)) (.hole), .bin .Add (.var 2) (.tup [.cst (.int 0)]), .bin .Mult (.tup [.cst (.bool true)]) (.prim .len [.var 2]), .bin .Add (.tup [.cst (.int 21)]) (.sl (.var 2) (.cst (.int 1)) (.hole))]), .for_ (.name 4) (.seq (.var 3)) refBody] ++ refTail := rfl
  have hs1 : ms.length + 1 + 1 ≤ sizeLine := szl2 (by simp at hz; omega)
  have hs2 : 1 + ms.length ≤ sizeLine := szl2 (by simp at hz; omega)
  have hmul : mulD (.tuple [.bool true]) (.int ((ms.length : Int) + 1)) = some (.tuple (List.replicate (m :: ms).length (.bool true))) := by
    unfold mulD
    by_cases h1 : ms.length = 0
    · simp [h1]
    · have a1 : ¬ ((ms.length : Int) + 1 = 1) := by omega
      have a2 : ([PyData.bool true] ≠ [] ∧ 2 ≤ (ms.length : Int) + 1 ∧ (ms.length : Int) + 1 ≤ 1000 ∧ [PyData.bool true].length ≤ 1000) := ⟨by simp, by omega, by simp at hz; omega, by simp⟩
      dsimp only
      rw [if_neg a1, if_pos a2]
      have a3 : ((ms.length : Int) + 1).toNat = ms.length + 1 := by omega
      rw [a3]
      simp [List.flatten_replicate_singleton]
  rw [e]
  simp only [funOf]
  have hd : denSs Φ 0 ([.asg (.name 2) (.call 53 2 [.peek 0, .var 1]), .asg (.name 3) (.lst [.cst .none, .prim .list [.var 2], .sl (.var 2) (.cst (.int 1)) (.hole), .bin .Add (.var 2) (.tup [.cst (.int 0)]), .bin .Mult (.tup [.cst (.bool true)]) (.prim .len [.var 2]), .bin .Add (.tup [.cst (.int 21)]) (.sl (.var 2) (.cst (.int 1)) (.hole))]), .for_ (.name 4) (.seq (.var 3)) refBody]) [some (.own q [.int v.1, .int v.2]), some (.d p.D), none, none, none, none] = .nx [some (.own q [.int w1, .int w2]), some (.d p.D), some (.d (.tuple (intsL (m :: ms)))), some (.d (.list odds)), b.map SV.d, ww.map SV.d] := by
    simp at h1
    subst hod
    simp at hl
    simp [h1, cut_tail, addD, hs1, hs2, hmul, hl]
  have hd2 : denSs Φ 0 ([.asg (.name 2) (.call 53 2 [.peek 0, .var 1]), .asg (.name 3) (.lst [.cst .none, .prim .list [.var 2], .sl (.var 2) (.cst (.int 1)) (.hole), .bin .Add (.var 2) (.tup [.cst (.int 0)]), .bin .Mult (.tup [.cst (.bool true)]) (.prim .len [.var 2]), .bin .Add (.tup [.cst (.int 21)]) (.sl (.var 2) (.cst (.int 1)) (.hole))]), .for_ (.name 4) (.seq (.var 3)) refBody] ++ refTail) [some (.own q [.int v.1, .int v.2]), some (.d p.D), none, none, none, none] = .rt (.d (.bool true)) (some (.own q [.int w1, .int w2]) :: e2) := by
    rw [denSs_app, hd]
    exact ht
  show (if 2 = 2 then _ else _) = _
  rw [if_pos rfl]
  show (match denSs Φ 0 _ [some (.own q [.int v.1, .int v.2]), some (.d p.D), none, none, none, none] with | .nx e => _ | .rt r e => _ | .exc c e => _ | _ => _) = _
  rw [hd2]
  cases e2 with
  | nil => simp at hle
  | cons o e2 => rcases o with _ | (x | ⟨pp, xx⟩) <;> simp [outsOf]
end K
namespace K
open PySem PySem.Spec L2 Fw
variable {Φ : FEnv}
@[simp] def f_law_k02 : List D → Option Res
  | [.list ss] => if (intsD ss).isSome = true ∧ ss.length ≤ 1000 then some (.ok (.bool true)) else none
  | _ => none
theorem neD_ints {a : List Int} : neD (.list (intsL a)) (.list (intsL a)) = some (.bool false) :=
  neD_self (n := a.length) (m := 1) (Sz.lst (m := 0) (by simp) fun d hd => by obtain ⟨s, hs, rfl⟩ := List.mem_map.mp hd; exact .int _) (by omega)
theorem filter_emptyA {α : Type} {ps : List α} {p : α → Bool} : (ps.filter fun d => !p d).isEmpty = ps.all p := by
  induction ps with
  | nil => rfl
  | cons d ps ih => cases h : p d <;> simp [List.filter_cons, h, ih]
theorem eqD_empty {ds : List D} (h : PyData.canLayAll0 ds = true) : eqD (.list ds) (.list []) = some (.bool ds.isEmpty) := by simp [eqD, okPair, h]
def Q2 (ss : List D) (i : Int) (v : Vt) (bd : D) (a b c d g : Option D) : En := [some (.d (.list ss)), some (.d (.int i)), some (.own false (Vt.l v)), some (.d bd), a.map SV.d, b.map SV.d, c.map SV.d, d.map SV.d, none, none, g.map SV.d, none]
def law2In : List IS := [.par [5, 6] [.v (.call 53 2 [.peek 2, .var 3]), .v (.call 25 3 [.peek 2, .var 3, .cst (.int 3)])], .asg (.name 7) (.call 51 2 [.var 3, .var 5]), .ifs (.cmp .NotEq (.call 43 2 [.var 3, .var 5]) (.comp (.ix (.var 8) (.cst (.int 0))) (.name 8) (.seq (.var 7)) (.hole) [8])) [.ret (.cst (.bool false))] [], .ifs (.cmp .NotEq (.call 44 2 [.var 3, .var 5]) (.comp (.var 9) (.tup [.name 9, .name 8]) (.enum (.var 7)) (.ix (.var 8) (.cst (.int 1))) [8, 9])) [.ret (.cst (.bool false))] [], .ifs (.cmp .NotEq (.call 45 2 [.var 3, .var 5]) (.bin .Sub (.ix (.ix (.var 7) (.cst (.int 0))) (.cst (.int 0))) (.prim .sum [.var 5]))) [.ret (.cst (.bool false))] [], .asg (.name 10) (.cmp .Eq (.comp (.var 11) (.name 11) (.seq (.var 6)) (.not (.call 52 3 [.var 11, .var 7, .var 5])) [11]) (.lst [])), .ifs (.not (.call 16 2 [.call 47 3 [.var 3, .var 5, .var 6], .var 10])) [.ret (.cst (.bool false))] []]
structure H2 (Φ : FEnv) : Prop where
  h16 : Fn Φ 16 f__law_truly
  h25 : FnV Φ 25 f__law_facts
  h43 : PShown (Φ.fn 43)
  h44 : PCaught (Φ.fn 44)
  h45 : POff (Φ.fn 45)
  h47 : PKeeps (Φ.fn 47)
  h51 : PLawRows (Φ.fn 51)
  h52 : PSo (Φ.fn 52)
  h53 : PNumbers (Φ.fn 53)
theorem law2_in (h : H2 Φ) {p : Pt} (hp : Bd p) {ss : List D} {i j : Int} {v : Vt} {b c d g : Option D} : ∃ v' b' c' d' g', denSs Φ 0 law2In (Q2 ss i v p.D (some (.int j)) b c d g) = .nx (Q2 ss i v' p.D (some (.int j)) b' c' d' g') := by
  obtain ⟨ns, ⟨w1, w2⟩, hns, e1⟩ := h.h53 p hp true v
  rcases hf : factsV (w1, w2) p.D 3 with ⟨fd, u1, u2⟩
  have hfs := factsV_ok (w1, w2) hp.isb (m := 3) (by decide) (by decide)
  rw [hf] at hfs
  obtain ⟨fs, rfl, hfl, hfa⟩ := facts_typed hp hfs.1
  have hfok : FcsOk p fs := ⟨hfl, hfa⟩
  have hb := hp.isb
  have hz := ns_small hp hns
  have hlen := inB_len hns
  have e51 := h.h51 p ns hp (by rw [hlen]; exact Nat.le_refl _) (by omega)
  have e43 := h.h43.k p ns hp hns
  have e44 := h.h44.k p ns hp hns
  have e45 := h.h45.k p ns hp hns
  have e47 := h.h47.k p ns fs hp hns hfok
  obtain ⟨cc, rs, hrs⟩ := led_head hp ns
  have hr := rows_small hp ns
  have hl := (led_len p ns).1
  refine ⟨(u1, u2), some (.tuple (intsL ns)), some (.tuple (fs.map Fc.D)), some (.list ((led p ns).2.1.map rowD)), some (.bool (fs.all (so (led p ns).2.1 ns))), ?_⟩
  -- the comprehensions
  have c1 := dComp_M rowD (led p ns).2.1 (fun r => .int r.1) (fi := denI Φ (.seq (.var 7))) (vs := [8]) (b := setD 8) (fe := den Φ (.ix (.var 8) (.cst (.int 0)))) (e := Q2 ss i (u1, u2) p.D (some (.int j)) (some (.tuple (intsL ns))) (some (.tuple (fs.map Fc.D))) (some (.list ((led p ns).2.1.map rowD))) g) (e1 := Q2 ss i (u1, u2) p.D (some (.int j)) (some (.tuple (intsL ns))) (some (.tuple (fs.map Fc.D))) (some (.list ((led p ns).2.1.map rowD))) g)
    (by simp [Q2]) rfl (szl2 (by omega)) (fun r _ => ⟨(Q2 ss i (u1, u2) p.D (some (.int j)) (some (.tuple (intsL ns))) (some (.tuple (fs.map Fc.D))) (some (.list ((led p ns).2.1.map rowD))) g).set 8 (some (.d (rowD r))), rfl, (Q2 ss i (u1, u2) p.D (some (.int j)) (some (.tuple (intsL ns))) (some (.tuple (fs.map Fc.D))) (some (.list ((led p ns).2.1.map rowD))) g).set 8 (some (.d (rowD r))), by simp [Q2, rowD], rfl, rfl⟩) rfl
  have s1 : (led p ns).2.1.map (fun r => PyData.int r.1) = intsL (shownL p ns) := by simp [shownL]
  rw [s1] at c1
  have c2 := dComp_A enumRD (enumR 0 (led p ns).2.1) (fun q => q.2.2) (fun q => .int (q.1 : Nat)) (fi := denI Φ (.enum (.var 7))) (vs := [8, 9]) (b := bTup 2 (bCons (setD 9) (bCons (setD 8) bNil))) (ft := some (den Φ (.ix (.var 8) (.cst (.int 1))))) (fe := den Φ (.var 9)) (e := Q2 ss i (u1, u2) p.D (some (.int j)) (some (.tuple (intsL ns))) (some (.tuple (fs.map Fc.D))) (some (.list ((led p ns).2.1.map rowD))) g) (e1 := Q2 ss i (u1, u2) p.D (some (.int j)) (some (.tuple (intsL ns))) (some (.tuple (fs.map Fc.D))) (some (.list ((led p ns).2.1.map rowD))) g)
    (by simp [Q2, enumR_D]) rfl (by rw [enumR_len]; exact szl2 (by omega))
    (fun q _ => ⟨((Q2 ss i (u1, u2) p.D (some (.int j)) (some (.tuple (intsL ns))) (some (.tuple (fs.map Fc.D))) (some (.list ((led p ns).2.1.map rowD))) g).set 9 (some (.d (.int (q.1 : Nat))))).set 8 (some (.d (rowD q.2))), by simp [enumRD, Q2], ((Q2 ss i (u1, u2) p.D (some (.int j)) (some (.tuple (intsL ns))) (some (.tuple (fs.map Fc.D))) (some (.list ((led p ns).2.1.map rowD))) g).set 9 (some (.d (.int (q.1 : Nat))))).set 8 (some (.d (rowD q.2))), by simp [Q2, rowD], rfl, fun _ => ⟨((Q2 ss i (u1, u2) p.D (some (.int j)) (some (.tuple (intsL ns))) (some (.tuple (fs.map Fc.D))) (some (.list ((led p ns).2.1.map rowD))) g).set 9 (some (.d (.int (q.1 : Nat))))).set 8 (some (.d (rowD q.2))), by simp [Q2], rfl⟩⟩) rfl
  rw [enumR_caught] at c2
  have c3 := dComp_A Fc.D fs (fun f => !so (led p ns).2.1 ns f) Fc.D (fi := denI Φ (.seq (.var 6))) (vs := [11]) (b := setD 11) (ft := some (den Φ (.not (.call 52 3 [.var 11, .var 7, .var 5])))) (fe := den Φ (.var 11)) (e := Q2 ss i (u1, u2) p.D (some (.int j)) (some (.tuple (intsL ns))) (some (.tuple (fs.map Fc.D))) (some (.list ((led p ns).2.1.map rowD))) g) (e1 := Q2 ss i (u1, u2) p.D (some (.int j)) (some (.tuple (intsL ns))) (some (.tuple (fs.map Fc.D))) (some (.list ((led p ns).2.1.map rowD))) g)
    (by simp [Q2]) rfl (szl2 (by omega)) (fun f hfm => by
      have e52 := h.h52 f (led p ns).2.1 ns (by rw [hl, hlen]; exact hfa f hfm)
      exact ⟨(Q2 ss i (u1, u2) p.D (some (.int j)) (some (.tuple (intsL ns))) (some (.tuple (fs.map Fc.D))) (some (.list ((led p ns).2.1.map rowD))) g).set 11 (some (.d f.D)), rfl, (Q2 ss i (u1, u2) p.D (some (.int j)) (some (.tuple (intsL ns))) (some (.tuple (fs.map Fc.D))) (some (.list ((led p ns).2.1.map rowD))) g).set 11 (some (.d f.D)), by simp [Q2, e52], rfl, fun _ => ⟨(Q2 ss i (u1, u2) p.D (some (.int j)) (some (.tuple (intsL ns))) (some (.tuple (fs.map Fc.D))) (some (.list ((led p ns).2.1.map rowD))) g).set 11 (some (.d f.D)), by simp [Q2], rfl⟩⟩) rfl
  have hcl : PyData.canLayAll0 ((fs.filter fun f => !so (led p ns).2.1 ns f).map Fc.D) = true := clAll_of fun d hd => by obtain ⟨f, _, rfl⟩ := List.mem_map.mp hd; exact fact_cl f
  have hem := eqD_empty hcl
  have hem2 : ((fs.filter fun f => !so (led p ns).2.1 ns f).map Fc.D).isEmpty = fs.all (so (led p ns).2.1 ns) := by rw [List.isEmpty_map, filter_emptyA]
  rw [hem2] at hem
  have n1 := neD_ints (a := shownL p ns)
  have n2 := neD_ints (a := caughtL p ns)
  have hx0 : atI ((led p ns).2.1.map rowD) 0 = some (rowD ((led p ns).1, cc)) := by rw [hrs, List.map_cons]; exact atI_0
  have hc2 : caughtFrom 0 (led p ns).2.1 = caughtL p ns := rfl
  rw [hc2] at c2
  simp only [Q2, Vt.l, Option.map_some, Option.map_none] at c1 c2 c3 ⊢
  dsimp only at e1
  generalize fs.all (so (led p ns).2.1 ns) = good at *
  simp [law2In, e1, h.h25, hb, hf, e51, e43, e44, e45, e47, c1, c2, c3, n1, n2, hem, h.h16, hx0, rowD]
theorem mem_range8 {d : D} (h : d ∈ rangeD 0 8) : ∃ i, d = .int i := let ⟨i, e, _⟩ := mem_range h; ⟨i, e⟩
/-- what the outer loop keeps -/
def LInvB (ss : List D) (e : En) : Prop := ∃ (i : Option D) (v : Option (List D)) (bd a b c d g : Option D), e = [some (SV.d (.list ss)), i.map SV.d, v.map (SV.own false), bd.map SV.d, a.map SV.d, b.map SV.d, c.map SV.d, d.map SV.d, none, none, g.map SV.d, none]
def law2Out : List IS := [.setF 2 (.call 12 2 [.var 0, .var 1]), .asg (.name 3) (.call 21 2 [.peek 2, .cst (.int 4)]), .for_ (.name 4) (.rng1 (.cst (.int 8))) law2In, .ifs (.not (.call 55 2 [.peek 2, .var 3])) [.ret (.cst (.bool false))] []]
theorem law2_out (h : H2 Φ) (h12 : Φ.fn 12 = fnO f__law_vat) (h21 : FnV Φ 21 f__law_board) (h55 : PRefused (Φ.fn 55)) {ss : List D} {ns : List Int} (hn : intsD ss = some ns) {hh : Int} : ∀ d ∈ rangeD 0 hh, ∀ e, LInvB ss e → ∃ e1, setD 1 d e = some e1 ∧ ∃ e2, (denSs Φ 0 law2Out e1 = .nx e2 ∨ denSs Φ 0 law2Out e1 = .ct e2) ∧ LInvB ss e2 := by
  intro d hd e ⟨i0, v0, bd0, a, b, c, dd, g, he⟩
  obtain ⟨i, rfl, hi, _⟩ := mem_range hd
  subst he
  refine ⟨[some (SV.d (.list ss)), some (.d (.int i)), v0.map (SV.own false), bd0.map SV.d, a.map SV.d, b.map SV.d, c.map SV.d, dd.map SV.d, none, none, g.map SV.d, none], by simp, ?_⟩
  rcases hv : vatOf ns i with ⟨v1, v2⟩
  rcases hw : boardV (v1, v2) 4 with ⟨bd, w1, w2⟩
  have hb : isBoard bd = true := by have := boardV_ok (v1, v2) (m := 4) (by decide) (by decide); rw [hw] at this; exact this
  obtain ⟨p, rfl, hp⟩ := board_bd hb
  obtain ⟨e', hl, v', a', b', c', d', g', he'⟩ := forL_inv (fun e => ∃ (v : Vt) (a b c d g : Option D), e = Q2 ss i v p.D a b c d g) (b := setD 4) (f := denSs Φ 0 law2In) (ds := rangeD 0 8) (e := Q2 ss i (w1, w2) p.D a b c dd g) (fun d hd e ⟨v, a, b, c, d', g, he⟩ => by
    obtain ⟨j, rfl⟩ := mem_range8 hd
    subst he
    obtain ⟨v', b', c', d'', g', hx⟩ := law2_in h hp (ss := ss) (i := i) (j := j) (v := v) (b := b) (c := c) (d := d') (g := g)
    exact ⟨Q2 ss i v p.D (some (.int j)) b c d' g, by simp [Q2], _, .inl hx, v', _, _, _, _, _, rfl⟩) ⟨(w1, w2), a, b, c, dd, g, rfl⟩
  subst he'
  obtain ⟨⟨x1, x2⟩, e55⟩ := h55 p hp true v'
  dsimp only at e55
  refine ⟨[some (SV.d (.list ss)), some (.d (.int i)), some (.own false [.int x1, .int x2]), some (.d p.D), a'.map SV.d, b'.map SV.d, c'.map SV.d, d'.map SV.d, none, none, g'.map SV.d, none], .inl ?_, some (.int i), some [.int x1, .int x2], some p.D, a', b', c', d', g', rfl⟩
  simp only [Q2, Vt.l] at hl
  simp [law2Out, h12, h21, hn, hi, hv, hw, hl, e55]
theorem ok_law_k02 (h : H2 Φ) (h12 : Φ.fn 12 = fnO f__law_vat) (h21 : FnV Φ 21 f__law_board) (h55 : PRefused (Φ.fn 55)) (h56 : Φ.fn 56 [] = .ret (.d (.bool true)) []) :
    ∀ args, fnP f_law_k02 args ≠ .bad → ∃ j, funOf 12 1 (denSs Φ j ir_law_k02) args = fnP f_law_k02 args := fnP_ok fun ds r hr => by
  unfold f_law_k02 at hr
  split at hr
  · rename_i ss
    split at hr
    · rename_i hv
      obtain ⟨hi, hl⟩ := hv
      obtain ⟨ns, hn⟩ := Option.isSome_iff_exists.mp hi
      cases hr
      refine ⟨rfl, 0, ?_⟩
      have e0 : ir_law_k02 = [.for_ (.name 1) (.rng1 (.prim .max [.cst (.int 6), .prim .min [.cst (.int 14), .prim .len [.var 0]]])) law2Out, .ret (.call0 56)] := rfl
      have hm : ∃ hh, denI Φ (.rng1 (.prim .max [.cst (.int 6), .prim .min [.cst (.int 14), .prim .len [.var 0]]])) [some (SV.d (.list ss)), none, none, none, none, none, none, none, none, none, none, none] = .ok (rangeD 0 hh) [some (SV.d (.list ss)), none, none, none, none, none, none, none, none, none, none, none] := by
        refine ⟨pyMax 6 (if (ss.length : Int) < 14 then ss.length else 14), ?_⟩
        have b1 : pyMax 6 (if (ss.length : Int) < 14 then ss.length else 14) ≤ 14 := by unfold pyMax; split <;> split <;> omega
        have b2 : 6 ≤ pyMax 6 (if (ss.length : Int) < 14 then ss.length else 14) := by unfold pyMax; split <;> split <;> omega
        generalize hg : pyMax 6 (if (ss.length : Int) < 14 then ss.length else 14) = hh at b1 b2
        have b3 : -4611686018427387904 ≤ hh := by omega
        have b4 : hh < 4611686018427387904 := by omega
        have hg2 := hg
        unfold pyMax at hg2
        simp [maxD, minD, *]
      obtain ⟨hh, hr⟩ := hm
      obtain ⟨e', h1, a, b, c, d, f, g, i, j, h2⟩ := forL_inv (LInvB ss) (ds := rangeD 0 hh) (law2_out h h12 h21 h55 hn) (e := [some (SV.d (.list ss)), none, none, none, none, none, none, none, none, none, none, none]) ⟨none, none, none, none, none, none, none, none, rfl⟩
      rw [e0]
      subst h2
      simp [hr, h1, h56]
    · cases hr
  · cases hr
theorem law_true_k02 {ns : List Int} (h : ns.length ≤ 63) : fnP f_law_k02 [.d (.list (ns.map PyData.int))] = .ret (.d (.bool true)) [[]] := by
  have h2 : ns.length ≤ 1000 := by omega
  simp [intsD_map, h2]
end K
set_option maxHeartbeats 0
namespace K
open PySem PySem.Spec L2 Fw
abbrev TabE : Type := Str × List Str × Stmt
def tab : List TabE := ([("is_whole", ["value", "low", "high"], s_is_whole), ("is_slip", ["value"], s_is_slip), ("is_hand", ["value"], s_is_hand), ("is_counter", ["value", "deep"], s_is_counter), ("slips_of", ["part"], s_slips_of), ("counters_of", ["part"], s_counters_of), ("is_board", ["value"], s_is_board), ("need_board", ["board"], s_need_board), ("is_fact", ["board", "value"], s_is_fact), ("are_facts", ["board", "value"], s_are_facts), ("need_facts", ["board", "facts"], s_need_facts), ("settled", ["kind", "low", "high", "number"], s_settled), ("handed", ["hand", "number"], s_handed), ("need_numbers", ["board", "numbers"], s_need_numbers), ("led", ["counter", "numbers", "rows"], s_led), ("rows_of", ["board", "numbers"], s_rows_of), ("shown", ["board", "numbers"], s_shown), ("caught", ["board", "numbers"], s_caught), ("off", ["board", "numbers"], s_off), ("is_so", ["fact", "rows", "numbers"], s_is_so)] : List TabE) ++ ([("keeps", ["board", "numbers", "facts"], s_keeps), ("_law_vat", ["script", "k"], s__law_vat), ("_law_under", ["vat", "many"], s__law_under), ("_law_some", ["vat", "things"], s__law_some), ("_law_truly", ["found", "due"], s__law_truly), ("_law_slip", ["vat"], s__law_slip), ("_law_hand", ["vat"], s__law_hand), ("_law_counter", ["vat", "hand", "parts"], s__law_counter), ("_law_inner", ["vat"], s__law_inner), ("_law_board", ["vat", "most"], s__law_board), ("_law_slips", ["part"], s__law_slips), ("_law_counters", ["part"], s__law_counters), ("_law_settled", ["counter", "number"], s__law_settled), ("_law_handed", ["hand", "number"], s__law_handed), ("_law_led", ["counter", "numbers"], s__law_led), ("_law_rows", ["board", "numbers"], s__law_rows), ("_law_so", ["fact", "rows", "numbers"], s__law_so), ("_law_fact", ["vat", "board"], s__law_fact), ("_law_facts", ["vat", "board", "most"], s__law_facts), ("_law_numbers", ["vat", "board"], s__law_numbers)] : List TabE) ++ ([("_law_names", ["e"], s__law_names), ("_law_error", ["call"], s__law_error), ("_law_known", [], s__law_known), ("_law_refused", ["vat", "board"], s__law_refused), ("_law_written", [], s__law_written), ("law", ["script"], s_law)] : List TabE)
def BindP (q : TabE) : Prop := ∀ (kV doc pm : Value) (an : Option Addr) (cdv ct : Value) (us : List Value), us.length = q.2.1.length → bindArgs (PySem.W.fnOf q.1 q.1 (defArgs q.2.2) (defBody q.2.2) (defScope q.2.2) .none kV doc pm an cdv ct) ⟨us, []⟩ = pure (q.2.1.zip us)
theorem all_cons {α : Type} {p : α → Prop} {a : α} {l : List α} (h : p a) (t : ∀ x ∈ l, p x) : ∀ x ∈ a :: l, p x := fun x hx => by
  rcases List.mem_cons.mp hx with rfl | hx
  · exact h
  · exact t x hx
theorem all_nil {α : Type} {p : α → Prop} : ∀ x ∈ ([] : List α), p x := fun x hx => nomatch hx
theorem all_app {α : Type} {p : α → Prop} {l m : List α} (h : ∀ x ∈ l, p x) (t : ∀ x ∈ m, p x) : ∀ x ∈ l ++ m, p x := fun x hx => (List.mem_append.mp hx).elim (h x) (t x)
theorem bind_is_whole : BindP ("is_whole", ["value", "low", "high"], s_is_whole) := fun _ _ _ _ _ _ us hl => match us, hl with | [_, _, _], _ => rfl
theorem bind_is_slip : BindP ("is_slip", ["value"], s_is_slip) := fun _ _ _ _ _ _ us hl => match us, hl with | [_], _ => rfl
theorem bind_is_hand : BindP ("is_hand", ["value"], s_is_hand) := fun _ _ _ _ _ _ us hl => match us, hl with | [_], _ => rfl
theorem bind_is_counter : BindP ("is_counter", ["value", "deep"], s_is_counter) := fun _ _ _ _ _ _ us hl => match us, hl with | [_, _], _ => rfl
theorem bind_slips_of : BindP ("slips_of", ["part"], s_slips_of) := fun _ _ _ _ _ _ us hl => match us, hl with | [_], _ => rfl
theorem bind_counters_of : BindP ("counters_of", ["part"], s_counters_of) := fun _ _ _ _ _ _ us hl => match us, hl with | [_], _ => rfl
theorem bind_is_board : BindP ("is_board", ["value"], s_is_board) := fun _ _ _ _ _ _ us hl => match us, hl with | [_], _ => rfl
theorem bind_need_board : BindP ("need_board", ["board"], s_need_board) := fun _ _ _ _ _ _ us hl => match us, hl with | [_], _ => rfl
theorem bind_is_fact : BindP ("is_fact", ["board", "value"], s_is_fact) := fun _ _ _ _ _ _ us hl => match us, hl with | [_, _], _ => rfl
theorem bind_are_facts : BindP ("are_facts", ["board", "value"], s_are_facts) := fun _ _ _ _ _ _ us hl => match us, hl with | [_, _], _ => rfl
theorem bind_need_facts : BindP ("need_facts", ["board", "facts"], s_need_facts) := fun _ _ _ _ _ _ us hl => match us, hl with | [_, _], _ => rfl
theorem bind_settled : BindP ("settled", ["kind", "low", "high", "number"], s_settled) := fun _ _ _ _ _ _ us hl => match us, hl with | [_, _, _, _], _ => rfl
theorem bind_handed : BindP ("handed", ["hand", "number"], s_handed) := fun _ _ _ _ _ _ us hl => match us, hl with | [_, _], _ => rfl
theorem bind_need_numbers : BindP ("need_numbers", ["board", "numbers"], s_need_numbers) := fun _ _ _ _ _ _ us hl => match us, hl with | [_, _], _ => rfl
theorem bind_led : BindP ("led", ["counter", "numbers", "rows"], s_led) := fun _ _ _ _ _ _ us hl => match us, hl with | [_, _, _], _ => rfl
theorem bind_rows_of : BindP ("rows_of", ["board", "numbers"], s_rows_of) := fun _ _ _ _ _ _ us hl => match us, hl with | [_, _], _ => rfl
theorem bind_shown : BindP ("shown", ["board", "numbers"], s_shown) := fun _ _ _ _ _ _ us hl => match us, hl with | [_, _], _ => rfl
theorem bind_caught : BindP ("caught", ["board", "numbers"], s_caught) := fun _ _ _ _ _ _ us hl => match us, hl with | [_, _], _ => rfl
theorem bind_off : BindP ("off", ["board", "numbers"], s_off) := fun _ _ _ _ _ _ us hl => match us, hl with | [_, _], _ => rfl
theorem bind_is_so : BindP ("is_so", ["fact", "rows", "numbers"], s_is_so) := fun _ _ _ _ _ _ us hl => match us, hl with | [_, _, _], _ => rfl
theorem bind_keeps : BindP ("keeps", ["board", "numbers", "facts"], s_keeps) := fun _ _ _ _ _ _ us hl => match us, hl with | [_, _, _], _ => rfl
theorem bind__law_vat : BindP ("_law_vat", ["script", "k"], s__law_vat) := fun _ _ _ _ _ _ us hl => match us, hl with | [_, _], _ => rfl
theorem bind__law_under : BindP ("_law_under", ["vat", "many"], s__law_under) := fun _ _ _ _ _ _ us hl => match us, hl with | [_, _], _ => rfl
theorem bind__law_some : BindP ("_law_some", ["vat", "things"], s__law_some) := fun _ _ _ _ _ _ us hl => match us, hl with | [_, _], _ => rfl
theorem bind__law_truly : BindP ("_law_truly", ["found", "due"], s__law_truly) := fun _ _ _ _ _ _ us hl => match us, hl with | [_, _], _ => rfl
theorem bind__law_slip : BindP ("_law_slip", ["vat"], s__law_slip) := fun _ _ _ _ _ _ us hl => match us, hl with | [_], _ => rfl
theorem bind__law_hand : BindP ("_law_hand", ["vat"], s__law_hand) := fun _ _ _ _ _ _ us hl => match us, hl with | [_], _ => rfl
theorem bind__law_counter : BindP ("_law_counter", ["vat", "hand", "parts"], s__law_counter) := fun _ _ _ _ _ _ us hl => match us, hl with | [_, _, _], _ => rfl
theorem bind__law_inner : BindP ("_law_inner", ["vat"], s__law_inner) := fun _ _ _ _ _ _ us hl => match us, hl with | [_], _ => rfl
theorem bind__law_board : BindP ("_law_board", ["vat", "most"], s__law_board) := fun _ _ _ _ _ _ us hl => match us, hl with | [_, _], _ => rfl
theorem bind__law_slips : BindP ("_law_slips", ["part"], s__law_slips) := fun _ _ _ _ _ _ us hl => match us, hl with | [_], _ => rfl
theorem bind__law_counters : BindP ("_law_counters", ["part"], s__law_counters) := fun _ _ _ _ _ _ us hl => match us, hl with | [_], _ => rfl
theorem bind__law_settled : BindP ("_law_settled", ["counter", "number"], s__law_settled) := fun _ _ _ _ _ _ us hl => match us, hl with | [_, _], _ => rfl
theorem bind__law_handed : BindP ("_law_handed", ["hand", "number"], s__law_handed) := fun _ _ _ _ _ _ us hl => match us, hl with | [_, _], _ => rfl
theorem bind__law_led : BindP ("_law_led", ["counter", "numbers"], s__law_led) := fun _ _ _ _ _ _ us hl => match us, hl with | [_, _], _ => rfl
theorem bind__law_rows : BindP ("_law_rows", ["board", "numbers"], s__law_rows) := fun _ _ _ _ _ _ us hl => match us, hl with | [_, _], _ => rfl
theorem bind__law_so : BindP ("_law_so", ["fact", "rows", "numbers"], s__law_so) := fun _ _ _ _ _ _ us hl => match us, hl with | [_, _, _], _ => rfl
theorem bind__law_fact : BindP ("_law_fact", ["vat", "board"], s__law_fact) := fun _ _ _ _ _ _ us hl => match us, hl with | [_, _], _ => rfl
theorem bind__law_facts : BindP ("_law_facts", ["vat", "board", "most"], s__law_facts) := fun _ _ _ _ _ _ us hl => match us, hl with | [_, _, _], _ => rfl
theorem bind__law_numbers : BindP ("_law_numbers", ["vat", "board"], s__law_numbers) := fun _ _ _ _ _ _ us hl => match us, hl with | [_, _], _ => rfl
theorem bind__law_names : BindP ("_law_names", ["e"], s__law_names) := fun _ _ _ _ _ _ us hl => match us, hl with | [_], _ => rfl
theorem bind__law_error : BindP ("_law_error", ["call"], s__law_error) := fun _ _ _ _ _ _ us hl => match us, hl with | [_], _ => rfl
theorem bind__law_known : BindP ("_law_known", [], s__law_known) := fun _ _ _ _ _ _ us hl => match us, hl with | [], _ => rfl
theorem bind__law_refused : BindP ("_law_refused", ["vat", "board"], s__law_refused) := fun _ _ _ _ _ _ us hl => match us, hl with | [_, _], _ => rfl
theorem bind__law_written : BindP ("_law_written", [], s__law_written) := fun _ _ _ _ _ _ us hl => match us, hl with | [], _ => rfl
theorem bind_law : BindP ("law", ["script"], s_law) := fun _ _ _ _ _ _ us hl => match us, hl with | [_], _ => rfl
theorem binds : ∀ q ∈ tab, BindP q := (all_app (all_app (all_cons bind_is_whole <| all_cons bind_is_slip <| all_cons bind_is_hand <| all_cons bind_is_counter <| all_cons bind_slips_of <| all_cons bind_counters_of <| all_cons bind_is_board <| all_cons bind_need_board <| all_cons bind_is_fact <| all_cons bind_are_facts <| all_cons bind_need_facts <| all_cons bind_settled <| all_cons bind_handed <| all_cons bind_need_numbers <| all_cons bind_led <| all_cons bind_rows_of <| all_cons bind_shown <| all_cons bind_caught <| all_cons bind_off <| all_cons bind_is_so <| all_nil) (all_cons bind_keeps <| all_cons bind__law_vat <| all_cons bind__law_under <| all_cons bind__law_some <| all_cons bind__law_truly <| all_cons bind__law_slip <| all_cons bind__law_hand <| all_cons bind__law_counter <| all_cons bind__law_inner <| all_cons bind__law_board <| all_cons bind__law_slips <| all_cons bind__law_counters <| all_cons bind__law_settled <| all_cons bind__law_handed <| all_cons bind__law_led <| all_cons bind__law_rows <| all_cons bind__law_so <| all_cons bind__law_fact <| all_cons bind__law_facts <| all_cons bind__law_numbers <| all_nil)) (all_cons bind__law_names <| all_cons bind__law_error <| all_cons bind__law_known <| all_cons bind__law_refused <| all_cons bind__law_written <| all_cons bind_law <| all_nil))
theorem tab_dfs : ∀ q ∈ tab, (q.1, q.2.2) ∈ dfs := fun q hq => by
  have h : tab.map (fun q => (q.1, q.2.2)) = dfs := rfl
  rw [← h]; exact List.mem_map.mpr ⟨q, hq, rfl⟩
theorem tab_glo : ∀ q ∈ tab, q.1 ∈ glos := fun q hq => by
  have h : tab.all (fun q => glos.contains q.1) = true := by decide +kernel
  have := List.all_eq_true.mp h q hq
  simpa using this
/-- each def as the head tells it -/
abbrev Dfs (K : PySem.W.Frag) (mg : Str → Option Value) : Prop := ∀ q ∈ tab, DefIn K mg q.1 q.2.1 q.2.2
theorem fun_of {K : PySem.W.Frag} {x q : Str} {st : Stmt} {f : Addr} {fd : FuncData} (F : FunD K x q (defArgs st) (defBody st) (defScope st) [] [] f fd) : Fun K x q st f fd := by
  obtain ⟨oc, od, dV, kV, doc, pm, an, cdv, ct, osl, e, lk, hc, hD, _⟩ := F.ex
  rcases hD with ⟨_, rfl⟩ | ⟨h, _⟩
  · exact ⟨⟨oc, od, kV, doc, pm, an, cdv, ct, osl, e, lk, hc⟩, F.kp⟩
  · exact absurd rfl h
theorem fa_glo {x : Str} (h : x ∈ glos) : He.Fa.glo x ∈ fa := List.mem_append_left _ (List.mem_map.mpr ⟨x, h, rfl⟩)
theorem fa_free {x : Str} (h : x ∈ frees) : He.Fa.free x ∈ fa := List.mem_append_right _ (List.mem_append_left _ (List.mem_map.mpr ⟨x, h, rfl⟩))
theorem fa_int {p : Str × Int} (h : p ∈ csts) : He.Fa.int p.1 p.2 ∈ fa := List.mem_append_right _ (List.mem_append_right _ (List.mem_append_left _ (List.mem_map.mpr ⟨p, h, rfl⟩)))
theorem fa_exc {x : Str} (h : x ∈ excs) : He.Fa.exc x ∈ fa := List.mem_append_right _ (List.mem_append_right _ (List.mem_append_right _ (List.mem_map.mpr ⟨x, h, rfl⟩)))
section
variable {K : PySem.W.Frag} {h : Heap} {mg : Str → Option Value}
theorem dfs_of (X : K.In h) (N : h.Ns mainGlobals mg) (c : He.SaysD fa fn K) : Dfs K mg := fun q hq => by
  obtain ⟨fd, F⟩ := c.defs (d := dd (q.1, q.2.2)) (List.mem_map.mpr ⟨_, tab_dfs q hq, rfl⟩)
  have Fu : Fun K q.1 q.1 q.2.2 (He.ga K q.1) fd := fun_of F
  exact ⟨He.ga K q.1, fd, ⟨He.glo_ok X N (c.facts (fa_glo (tab_glo q hq))), Fu.kp, Fu.binds (binds q hq), rfl⟩, Fu⟩
theorem base_of {G : Hp → Prop} (g : GOk G) (X : K.In h) (N : h.Ns mainGlobals mg) (c : He.SaysD fa fn K) : Base Γ G (ecK K) K mg where
  g := g
  excs := fun x cc hx => by
    have hm := mem_of_lookup hx
    have h1 : Γ.excs.all (fun p => excs.contains p.1 && glos.contains p.1 && excNm.getD p.2 "" == p.1) = true := by decide +kernel
    have h2 := List.all_eq_true.mp h1 _ hm
    simp only [Bool.and_eq_true, beq_iff_eq, List.contains_iff_mem] at h2
    obtain ⟨⟨e1, e2⟩, e3⟩ := h2
    have e3 : excNm.getD cc "" = x := e3
    have ee : ecK K cc = He.ga K x := congrArg (He.ga K) e3
    rw [ee]
    obtain ⟨k1, k2, k3, k4⟩ := He.exc_ok (c.facts (fa_exc e1))
    exact ⟨He.glo_ok X N (c.facts (fa_glo e2)), k2, k1, k3, k4⟩
  cst := fun x d hx => by
    have hm := mem_of_lookup hx
    have h1 : Γ.cst = csts.map (fun p => (p.1, PyData.int p.2)) := rfl
    rw [h1] at hm
    obtain ⟨p, hp, e⟩ := List.mem_map.mp hm
    cases e
    obtain ⟨t, ht⟩ := He.int_ok X N (c.facts (fa_int hp))
    exact ⟨.int p.2, _, ht, rfl, ⟨t, rfl⟩⟩
  blt := fun x hx => by
    have h1 : Γ.blt.all (fun y => frees.contains y) = true := by decide +kernel
    have h2 := List.all_eq_true.mp h1 x (by simpa using hx)
    exact He.free_ok X N (c.facts (fa_free (by simpa using h2)))
theorem nmK_of (X : K.In h) (N : h.Ns mainGlobals mg) (c : He.SaysD fa fn K) : NmK K mg (CsK K) where
  len := by simp [CsK, clsNames]
  g := fun i x a hx ha => by
    have h1 : clsNames.all (fun y => glos.contains y) = true := by decide +kernel
    have h2 := List.all_eq_true.mp h1 x (List.mem_of_getElem? hx)
    unfold CsK at ha
    rw [List.getElem?_map, hx] at ha
    cases ha
    exact He.glo_ok X N (c.facts (fa_glo (by simpa using h2)))
  ve := He.free_ok X N (c.facts (fa_free (by decide +kernel)))
  zp := He.free_ok X N (c.facts (fa_free (by decide +kernel)))
  ii := He.free_ok X N (c.facts (fa_free (by decide +kernel)))
end
def P0 : FEnv := { fn := fun _ => badE, nm := nmL }
def P1 : FEnv := P0.set 0 (fnP f_is_whole)
def P2 : FEnv := P1.set 1 (fnP f_is_slip)
def P3 : FEnv := P2.set 2 (fnP f_is_hand)
def P4 : FEnv := P3.set 3 (fnP (f_is_counter 3))
def P5 : FEnv := P4.set 4 (fnP (f_slips_of 4))
def P6 : FEnv := P5.set 5 (fnP (f_counters_of 4))
def P7 : FEnv := P6.set 6 (fnP f_is_board)
def P8 : FEnv := P7.set 7 (fnP f_need_board)
def P9 : FEnv := P8.set 8 (fnP f_is_fact)
def P10 : FEnv := P9.set 9 (fnP f_are_facts)
def P11 : FEnv := P10.set 37 (fnP f_need_facts)
def P12 : FEnv := P11.set 38 (fnP f_settled)
def P13 : FEnv := P12.set 39 (fnP f_handed)
def F_need_numbers : FnDen := funOf N_need_numbers.length 2 (denSs P13 0 ir_need_numbers)
theorem H_need_numbers : PNeedN (F_need_numbers) := pr_need_numbers (Φ := P13) rfl rfl rfl
def P14 : FEnv := P13.set 40 (F_need_numbers)
def F_led : FnDen := recF P14 41 N_led.length 3 ir_led 3
theorem HR_led : ∀ j, PLed j (recF P14 41 N_led.length 3 ir_led j) := fun j => by
  induction j with
  | zero => exact pled_zero
  | succ j ih => exact pr_led (Φ := P14.set 41 (recF P14 41 N_led.length 3 ir_led j)) ih rfl rfl
theorem H_led : PLed 3 F_led := HR_led 3
def P15 : FEnv := P14.set 41 (F_led)
def F_rows_of : FnDen := funOf N_rows_of.length 2 (denSs P15 0 ir_rows_of)
theorem H_rows_of : PRows (F_rows_of) := pr_rows_of (Φ := P15) (show PLed 3 (P15.fn 41) from H_led)
def P16 : FEnv := P15.set 42 (F_rows_of)
def F_shown : FnDen := funOf N_shown.length 2 (denSs P16 0 ir_shown)
theorem H_shown : PShown (F_shown) := pr_shown (Φ := P16) (show PNeedN (P16.fn 40) from H_need_numbers) (show PRows (P16.fn 42) from H_rows_of)
def P17 : FEnv := P16.set 43 (F_shown)
def F_caught : FnDen := funOf N_caught.length 2 (denSs P17 0 ir_caught)
theorem H_caught : PCaught (F_caught) := pr_caught (Φ := P17) (show PNeedN (P17.fn 40) from H_need_numbers) (show PRows (P17.fn 42) from H_rows_of)
def P18 : FEnv := P17.set 44 (F_caught)
def F_off : FnDen := funOf N_off.length 2 (denSs P18 0 ir_off)
theorem H_off : POff (F_off) := pr_off (Φ := P18) (show PNeedN (P18.fn 40) from H_need_numbers) (show PRows (P18.fn 42) from H_rows_of)
def P19 : FEnv := P18.set 45 (F_off)
def F_is_so : FnDen := funOf N_is_so.length 3 (denSs P19 0 ir_is_so)
theorem H_is_so : PSo (F_is_so) := pr_is_so (Φ := P19)
def P20 : FEnv := P19.set 46 (F_is_so)
def F_keeps : FnDen := funOf N_keeps.length 3 (denSs P20 0 ir_keeps)
theorem H_keeps : PKeeps (F_keeps) := pr_keeps (Φ := P20) rfl (show PNeedN (P20.fn 40) from H_need_numbers) (show PRows (P20.fn 42) from H_rows_of) (show PSo (P20.fn 46) from H_is_so)
def P21 : FEnv := P20.set 47 (F_keeps)
def P22 : FEnv := P21.set 12 (fnO f__law_vat)
def P23 : FEnv := P22.set 13 (fnV f__law_under)
def P24 : FEnv := P23.set 14 (fnV f__law_some)
def P25 : FEnv := P24.set 16 (fnP f__law_truly)
def P26 : FEnv := P25.set 17 (fnV f__law_slip)
def P27 : FEnv := P26.set 18 (fnV f__law_hand)
def P28 : FEnv := P27.set 19 (fnV f__law_counter)
def P29 : FEnv := P28.set 20 (fnV f__law_inner)
def P30 : FEnv := P29.set 21 (fnV f__law_board)
def P31 : FEnv := P30.set 22 (fnP (f__law_slips 4))
def P32 : FEnv := P31.set 23 (fnP (f__law_counters 4))
def P33 : FEnv := P32.set 48 (fnP f__law_settled)
def P34 : FEnv := P33.set 49 (fnP f__law_handed)
def F__law_led : FnDen := recF P34 50 N__law_led.length 2 ir__law_led 3
theorem HR__law_led : ∀ j, PLawLed j (recF P34 50 N__law_led.length 2 ir__law_led j) := fun j => by
  induction j with
  | zero => exact plawled_zero
  | succ j ih => exact pr__law_led (Φ := P34.set 50 (recF P34 50 N__law_led.length 2 ir__law_led j)) ih rfl rfl
theorem H__law_led : PLawLed 3 F__law_led := HR__law_led 3
def P35 : FEnv := P34.set 50 (F__law_led)
def F__law_rows : FnDen := funOf N__law_rows.length 2 (denSs P35 0 ir__law_rows)
theorem H__law_rows : PLawRows (F__law_rows) := pr__law_rows (Φ := P35) (show PLawLed 3 (P35.fn 50) from H__law_led)
def P36 : FEnv := P35.set 51 (F__law_rows)
def F__law_so : FnDen := funOf N__law_so.length 3 (denSs P36 0 ir__law_so)
theorem H__law_so : PSo (F__law_so) := pr__law_so (Φ := P36)
def P37 : FEnv := P36.set 52 (F__law_so)
def P38 : FEnv := P37.set 24 (fnV f__law_fact)
def P39 : FEnv := P38.set 25 (fnV f__law_facts)
def F__law_numbers : FnDen := funOf N__law_numbers.length 2 (denSs P39 0 ir__law_numbers)
theorem H__law_numbers : PNumbers (F__law_numbers) := pr__law_numbers (Φ := P39) rfl rfl
def P40 : FEnv := P39.set 53 (F__law_numbers)
def F__law_known : FnDen := funOf N__law_known.length 0 (denSs P40 0 ir__law_known)
def P41 : FEnv := P40.set 54 (F__law_known)
def F__law_refused : FnDen := funOf N__law_refused.length 2 (denSs P41 0 ir__law_refused)
theorem H__law_refused : PRefused (F__law_refused) := pr__law_refused (Φ := P41) ⟨nm_1, nm_2, nm_3⟩ (show PShown (P41.fn 43) from H_shown) (show PCaught (P41.fn 44) from H_caught) (show POff (P41.fn 45) from H_off) (show PKeeps (P41.fn 47) from H_keeps) (show PNumbers (P41.fn 53) from H__law_numbers)
def P42 : FEnv := P41.set 55 (F__law_refused)
theorem written_ok : isTrueRet (funOf N__law_written_k02.length 0 (denSs P42 0 ir__law_written_k02) []) = true := by decide +kernel
def P43 : FEnv := P42.set 56 (wrF)
theorem H2_ok : H2 P43 := ⟨rfl, rfl, H_shown, H_caught, H_off, H_keeps, H__law_rows, H__law_so, H__law_numbers⟩
/-- defs that hand lambdas on -/
def lamD : List (Str × Stmt) := [("_law_refused", s__law_refused)]
theorem chain {P : Program} {w : World} {K : PySem.W.Frag} {mg : Str → Option Value} {base : Heap} {G : Hp → Prop} (B : Base Γ G (ecK K) K mg) (d : Dfs K mg)
    (hatt : ∀ k, 1 ≤ k → ∀ q ∈ lamD, ∀ (a : Addr) (fd : FuncData), mg q.1 = some (.ref a) → Fun K q.1 q.1 q.2 a fd → ∀ y m, Γ.atts.lookup y = some m → AttOk P w K mg base fd.code (q.1 ++ ".<locals>.") k G (ecK K) nmL y m) :
    ∃ (a : Addr) (fd : FuncData), FnM K mg "law" 1 a fd ["script"] ∧ Fun K "law" "law" s_law a fd ∧ FnOk P w K mg base (L2N.CX P w) 64 a fd ["script"] (spOf K G (ecK K) 1 (fnP f_law_k02)) := by
  have hf : ∀ x f n, Γ.fns.lookup x = some (f, n) → ∃ a fd ps, FnM K mg x n a fd ps := fun x f n hx => by
    have h1 : Γ.fns.all (fun p => tab.any fun q => q.1 == p.1 && q.2.1.length == p.2.2) = true := by decide +kernel
    have h2 := List.all_eq_true.mp h1 _ (mem_of_lookup hx)
    obtain ⟨q, hq, h3⟩ := List.any_eq_true.mp h2
    have h3 := and2 h3
    have e1 : q.1 = x := beq_iff_eq.mp h3.1
    have e2 : q.2.1.length = n := beq_iff_eq.mp h3.2
    subst e1 e2
    obtain ⟨a, fd, m, _⟩ := (d q hq).ex
    exact ⟨a, fd, _, m⟩
  have M0 : Md Γ P0 G (ecK K) P w K mg base 0 := Md.none (Φ := P0) B hf
  have M1 : Md Γ P1 G (ecK K) P w K mg base 1 := M0.addD (f := 0) (F := fnP f_is_whole) (N := N_is_whole) (ir := ir_is_whole) (show DefIn K mg "is_whole" ["value", "low", "high"] s_is_whole from d ("is_whole", ["value", "low", "high"], s_is_whole) (List.mem_of_getElem? (i := 0) rfl)) (by decide +kernel) sc_is_whole ck_is_whole (ok_is_whole)
  have M2 : Md Γ P2 G (ecK K) P w K mg base 2 := M1.addD (f := 1) (F := fnP f_is_slip) (N := N_is_slip) (ir := ir_is_slip) (show DefIn K mg "is_slip" ["value"] s_is_slip from d ("is_slip", ["value"], s_is_slip) (List.mem_of_getElem? (i := 1) rfl)) (by decide +kernel) sc_is_slip ck_is_slip (ok_is_slip rfl)
  have M3 : Md Γ P3 G (ecK K) P w K mg base 3 := M2.addD (f := 2) (F := fnP f_is_hand) (N := N_is_hand) (ir := ir_is_hand) (show DefIn K mg "is_hand" ["value"] s_is_hand from d ("is_hand", ["value"], s_is_hand) (List.mem_of_getElem? (i := 2) rfl)) (by decide +kernel) sc_is_hand ck_is_hand (ok_is_hand rfl)
  have M4 : Md Γ P4 G (ecK K) P w K mg base 6 := M3.addRec (f := 3) (F := fun j => fnP (f_is_counter j)) (N := N_is_counter) (ir := ir_is_counter) (show DefIn K mg "is_counter" ["value", "deep"] s_is_counter from d ("is_counter", ["value", "deep"], s_is_counter) (List.mem_of_getElem? (i := 3) rfl)) (by decide +kernel) sc_is_counter ck_is_counter (bad_P (f := f_is_counter 0) nil_is_counter) (fun j => ok_is_counter (j := j) rfl rfl rfl rfl) 3
  have M5 : Md Γ P5 G (ecK K) P w K mg base 10 := M4.addRec (f := 4) (F := fun j => fnP (f_slips_of j)) (N := N_slips_of) (ir := ir_slips_of) (show DefIn K mg "slips_of" ["part"] s_slips_of from d ("slips_of", ["part"], s_slips_of) (List.mem_of_getElem? (i := 4) rfl)) (by decide +kernel) sc_slips_of ck_slips_of (bad_P (f := f_slips_of 0) nil_slips_of) (fun j => ok_slips_of (j := j) rfl) 4
  have M6 : Md Γ P6 G (ecK K) P w K mg base 14 := M5.addRec (f := 5) (F := fun j => fnP (f_counters_of j)) (N := N_counters_of) (ir := ir_counters_of) (show DefIn K mg "counters_of" ["part"] s_counters_of from d ("counters_of", ["part"], s_counters_of) (List.mem_of_getElem? (i := 5) rfl)) (by decide +kernel) sc_counters_of ck_counters_of (bad_P (f := f_counters_of 0) nil_counters_of) (fun j => ok_counters_of (j := j) rfl) 4
  have M7 : Md Γ P7 G (ecK K) P w K mg base 15 := M6.addD (f := 6) (F := fnP f_is_board) (N := N_is_board) (ir := ir_is_board) (show DefIn K mg "is_board" ["value"] s_is_board from d ("is_board", ["value"], s_is_board) (List.mem_of_getElem? (i := 6) rfl)) (by decide +kernel) sc_is_board ck_is_board (ok_is_board rfl rfl rfl)
  have M8 : Md Γ P8 G (ecK K) P w K mg base 16 := M7.addD (f := 7) (F := fnP f_need_board) (N := N_need_board) (ir := ir_need_board) (show DefIn K mg "need_board" ["board"] s_need_board from d ("need_board", ["board"], s_need_board) (List.mem_of_getElem? (i := 7) rfl)) (by decide +kernel) sc_need_board ck_need_board (ok_need_board rfl)
  have M9 : Md Γ P9 G (ecK K) P w K mg base 17 := M8.addD (f := 8) (F := fnP f_is_fact) (N := N_is_fact) (ir := ir_is_fact) (show DefIn K mg "is_fact" ["board", "value"] s_is_fact from d ("is_fact", ["board", "value"], s_is_fact) (List.mem_of_getElem? (i := 8) rfl)) (by decide +kernel) sc_is_fact ck_is_fact (ok_is_fact rfl rfl rfl)
  have M10 : Md Γ P10 G (ecK K) P w K mg base 18 := M9.addD (f := 9) (F := fnP f_are_facts) (N := N_are_facts) (ir := ir_are_facts) (show DefIn K mg "are_facts" ["board", "value"] s_are_facts from d ("are_facts", ["board", "value"], s_are_facts) (List.mem_of_getElem? (i := 9) rfl)) (by decide +kernel) sc_are_facts ck_are_facts (ok_are_facts rfl rfl)
  have M11 : Md Γ P11 G (ecK K) P w K mg base 19 := M10.addD (f := 37) (F := fnP f_need_facts) (N := N_need_facts) (ir := ir_need_facts) (show DefIn K mg "need_facts" ["board", "facts"] s_need_facts from d ("need_facts", ["board", "facts"], s_need_facts) (List.mem_of_getElem? (i := 10) rfl)) (by decide +kernel) sc_need_facts ck_need_facts (ok_need_facts rfl)
  have M12 : Md Γ P12 G (ecK K) P w K mg base 20 := M11.addD (f := 38) (F := fnP f_settled) (N := N_settled) (ir := ir_settled) (show DefIn K mg "settled" ["kind", "low", "high", "number"] s_settled from d ("settled", ["kind", "low", "high", "number"], s_settled) (List.mem_of_getElem? (i := 11) rfl)) (by decide +kernel) sc_settled ck_settled (ok_settled)
  have M13 : Md Γ P13 G (ecK K) P w K mg base 21 := M12.addD (f := 39) (F := fnP f_handed) (N := N_handed) (ir := ir_handed) (show DefIn K mg "handed" ["hand", "number"] s_handed from d ("handed", ["hand", "number"], s_handed) (List.mem_of_getElem? (i := 12) rfl)) (by decide +kernel) sc_handed ck_handed (ok_handed)
  have M14 : Md Γ P14 G (ecK K) P w K mg base 22 := M13.addD (f := 40) (F := F_need_numbers) (N := N_need_numbers) (ir := ir_need_numbers) (show DefIn K mg "need_numbers" ["board", "numbers"] s_need_numbers from d ("need_numbers", ["board", "numbers"], s_need_numbers) (List.mem_of_getElem? (i := 13) rfl)) (by decide +kernel) sc_need_numbers ck_need_numbers (fun args _ => ⟨0, rfl⟩)
  have M15 : Md Γ P15 G (ecK K) P w K mg base 25 := M14.addRecF (f := 41) (N := N_led) (ir := ir_led) (show DefIn K mg "led" ["counter", "numbers", "rows"] s_led from d ("led", ["counter", "numbers", "rows"], s_led) (List.mem_of_getElem? (i := 14) rfl)) (by decide +kernel) sc_led ck_led 3
  have M16 : Md Γ P16 G (ecK K) P w K mg base 26 := M15.addD (f := 42) (F := F_rows_of) (N := N_rows_of) (ir := ir_rows_of) (show DefIn K mg "rows_of" ["board", "numbers"] s_rows_of from d ("rows_of", ["board", "numbers"], s_rows_of) (List.mem_of_getElem? (i := 15) rfl)) (by decide +kernel) sc_rows_of ck_rows_of (fun args _ => ⟨0, rfl⟩)
  have M17 : Md Γ P17 G (ecK K) P w K mg base 27 := M16.addD (f := 43) (F := F_shown) (N := N_shown) (ir := ir_shown) (show DefIn K mg "shown" ["board", "numbers"] s_shown from d ("shown", ["board", "numbers"], s_shown) (List.mem_of_getElem? (i := 16) rfl)) (by decide +kernel) sc_shown ck_shown (fun args _ => ⟨0, rfl⟩)
  have M18 : Md Γ P18 G (ecK K) P w K mg base 28 := M17.addD (f := 44) (F := F_caught) (N := N_caught) (ir := ir_caught) (show DefIn K mg "caught" ["board", "numbers"] s_caught from d ("caught", ["board", "numbers"], s_caught) (List.mem_of_getElem? (i := 17) rfl)) (by decide +kernel) sc_caught ck_caught (fun args _ => ⟨0, rfl⟩)
  have M19 : Md Γ P19 G (ecK K) P w K mg base 29 := M18.addD (f := 45) (F := F_off) (N := N_off) (ir := ir_off) (show DefIn K mg "off" ["board", "numbers"] s_off from d ("off", ["board", "numbers"], s_off) (List.mem_of_getElem? (i := 18) rfl)) (by decide +kernel) sc_off ck_off (fun args _ => ⟨0, rfl⟩)
  have M20 : Md Γ P20 G (ecK K) P w K mg base 30 := M19.addD (f := 46) (F := F_is_so) (N := N_is_so) (ir := ir_is_so) (show DefIn K mg "is_so" ["fact", "rows", "numbers"] s_is_so from d ("is_so", ["fact", "rows", "numbers"], s_is_so) (List.mem_of_getElem? (i := 19) rfl)) (by decide +kernel) sc_is_so ck_is_so (fun args _ => ⟨0, rfl⟩)
  have M21 : Md Γ P21 G (ecK K) P w K mg base 31 := M20.addD (f := 47) (F := F_keeps) (N := N_keeps) (ir := ir_keeps) (show DefIn K mg "keeps" ["board", "numbers", "facts"] s_keeps from d ("keeps", ["board", "numbers", "facts"], s_keeps) (List.mem_of_getElem? (i := 20) rfl)) (by decide +kernel) sc_keeps ck_keeps (fun args _ => ⟨0, rfl⟩)
  have M22 : Md Γ P22 G (ecK K) P w K mg base 32 := M21.addD (f := 12) (F := fnO f__law_vat) (N := N__law_vat) (ir := ir__law_vat) (show DefIn K mg "_law_vat" ["script", "k"] s__law_vat from d ("_law_vat", ["script", "k"], s__law_vat) (List.mem_of_getElem? (i := 21) rfl)) (by decide +kernel) sc__law_vat ck__law_vat (ok__law_vat)
  have M23 : Md Γ P23 G (ecK K) P w K mg base 33 := M22.addD (f := 13) (F := fnV f__law_under) (N := N__law_under) (ir := ir__law_under) (show DefIn K mg "_law_under" ["vat", "many"] s__law_under from d ("_law_under", ["vat", "many"], s__law_under) (List.mem_of_getElem? (i := 22) rfl)) (by decide +kernel) sc__law_under ck__law_under (ok__law_under)
  have M24 : Md Γ P24 G (ecK K) P w K mg base 34 := M23.addD (f := 14) (F := fnV f__law_some) (N := N__law_some) (ir := ir__law_some) (show DefIn K mg "_law_some" ["vat", "things"] s__law_some from d ("_law_some", ["vat", "things"], s__law_some) (List.mem_of_getElem? (i := 23) rfl)) (by decide +kernel) sc__law_some ck__law_some (ok__law_some rfl)
  have M25 : Md Γ P25 G (ecK K) P w K mg base 35 := M24.addD (f := 16) (F := fnP f__law_truly) (N := N__law_truly) (ir := ir__law_truly) (show DefIn K mg "_law_truly" ["found", "due"] s__law_truly from d ("_law_truly", ["found", "due"], s__law_truly) (List.mem_of_getElem? (i := 24) rfl)) (by decide +kernel) sc__law_truly ck__law_truly (ok__law_truly)
  have M26 : Md Γ P26 G (ecK K) P w K mg base 36 := M25.addD (f := 17) (F := fnV f__law_slip) (N := N__law_slip) (ir := ir__law_slip) (show DefIn K mg "_law_slip" ["vat"] s__law_slip from d ("_law_slip", ["vat"], s__law_slip) (List.mem_of_getElem? (i := 25) rfl)) (by decide +kernel) sc__law_slip ck__law_slip (ok__law_slip rfl)
  have M27 : Md Γ P27 G (ecK K) P w K mg base 37 := M26.addD (f := 18) (F := fnV f__law_hand) (N := N__law_hand) (ir := ir__law_hand) (show DefIn K mg "_law_hand" ["vat"] s__law_hand from d ("_law_hand", ["vat"], s__law_hand) (List.mem_of_getElem? (i := 26) rfl)) (by decide +kernel) sc__law_hand ck__law_hand (ok__law_hand rfl rfl)
  have M28 : Md Γ P28 G (ecK K) P w K mg base 38 := M27.addD (f := 19) (F := fnV f__law_counter) (N := N__law_counter) (ir := ir__law_counter) (show DefIn K mg "_law_counter" ["vat", "hand", "parts"] s__law_counter from d ("_law_counter", ["vat", "hand", "parts"], s__law_counter) (List.mem_of_getElem? (i := 27) rfl)) (by decide +kernel) sc__law_counter ck__law_counter (ok__law_counter rfl rfl)
  have M29 : Md Γ P29 G (ecK K) P w K mg base 39 := M28.addD (f := 20) (F := fnV f__law_inner) (N := N__law_inner) (ir := ir__law_inner) (show DefIn K mg "_law_inner" ["vat"] s__law_inner from d ("_law_inner", ["vat"], s__law_inner) (List.mem_of_getElem? (i := 28) rfl)) (by decide +kernel) sc__law_inner ck__law_inner (ok__law_inner rfl rfl rfl rfl)
  have M30 : Md Γ P30 G (ecK K) P w K mg base 40 := M29.addD (f := 21) (F := fnV f__law_board) (N := N__law_board) (ir := ir__law_board) (show DefIn K mg "_law_board" ["vat", "most"] s__law_board from d ("_law_board", ["vat", "most"], s__law_board) (List.mem_of_getElem? (i := 29) rfl)) (by decide +kernel) sc__law_board ck__law_board (ok__law_board rfl rfl rfl rfl)
  have M31 : Md Γ P31 G (ecK K) P w K mg base 44 := M30.addRec (f := 22) (F := fun j => fnP (f__law_slips j)) (N := N__law_slips) (ir := ir__law_slips) (show DefIn K mg "_law_slips" ["part"] s__law_slips from d ("_law_slips", ["part"], s__law_slips) (List.mem_of_getElem? (i := 30) rfl)) (by decide +kernel) sc__law_slips ck__law_slips (bad_P (f := f__law_slips 0) nil__law_slips) (fun j => ok__law_slips (j := j) rfl) 4
  have M32 : Md Γ P32 G (ecK K) P w K mg base 48 := M31.addRec (f := 23) (F := fun j => fnP (f__law_counters j)) (N := N__law_counters) (ir := ir__law_counters) (show DefIn K mg "_law_counters" ["part"] s__law_counters from d ("_law_counters", ["part"], s__law_counters) (List.mem_of_getElem? (i := 31) rfl)) (by decide +kernel) sc__law_counters ck__law_counters (bad_P (f := f__law_counters 0) nil__law_counters) (fun j => ok__law_counters (j := j) rfl) 4
  have M33 : Md Γ P33 G (ecK K) P w K mg base 49 := M32.addD (f := 48) (F := fnP f__law_settled) (N := N__law_settled) (ir := ir__law_settled) (show DefIn K mg "_law_settled" ["counter", "number"] s__law_settled from d ("_law_settled", ["counter", "number"], s__law_settled) (List.mem_of_getElem? (i := 32) rfl)) (by decide +kernel) sc__law_settled ck__law_settled (ok__law_settled)
  have M34 : Md Γ P34 G (ecK K) P w K mg base 50 := M33.addD (f := 49) (F := fnP f__law_handed) (N := N__law_handed) (ir := ir__law_handed) (show DefIn K mg "_law_handed" ["hand", "number"] s__law_handed from d ("_law_handed", ["hand", "number"], s__law_handed) (List.mem_of_getElem? (i := 33) rfl)) (by decide +kernel) sc__law_handed ck__law_handed (ok__law_handed)
  have M35 : Md Γ P35 G (ecK K) P w K mg base 53 := M34.addRecF (f := 50) (N := N__law_led) (ir := ir__law_led) (show DefIn K mg "_law_led" ["counter", "numbers"] s__law_led from d ("_law_led", ["counter", "numbers"], s__law_led) (List.mem_of_getElem? (i := 34) rfl)) (by decide +kernel) sc__law_led ck__law_led 3
  have M36 : Md Γ P36 G (ecK K) P w K mg base 54 := M35.addD (f := 51) (F := F__law_rows) (N := N__law_rows) (ir := ir__law_rows) (show DefIn K mg "_law_rows" ["board", "numbers"] s__law_rows from d ("_law_rows", ["board", "numbers"], s__law_rows) (List.mem_of_getElem? (i := 35) rfl)) (by decide +kernel) sc__law_rows ck__law_rows (fun args _ => ⟨0, rfl⟩)
  have M37 : Md Γ P37 G (ecK K) P w K mg base 55 := M36.addD (f := 52) (F := F__law_so) (N := N__law_so) (ir := ir__law_so) (show DefIn K mg "_law_so" ["fact", "rows", "numbers"] s__law_so from d ("_law_so", ["fact", "rows", "numbers"], s__law_so) (List.mem_of_getElem? (i := 36) rfl)) (by decide +kernel) sc__law_so ck__law_so (fun args _ => ⟨0, rfl⟩)
  have M38 : Md Γ P38 G (ecK K) P w K mg base 56 := M37.addD (f := 24) (F := fnV f__law_fact) (N := N__law_fact) (ir := ir__law_fact) (show DefIn K mg "_law_fact" ["vat", "board"] s__law_fact from d ("_law_fact", ["vat", "board"], s__law_fact) (List.mem_of_getElem? (i := 37) rfl)) (by decide +kernel) sc__law_fact ck__law_fact (ok__law_fact rfl rfl rfl)
  have M39 : Md Γ P39 G (ecK K) P w K mg base 57 := M38.addD (f := 25) (F := fnV f__law_facts) (N := N__law_facts) (ir := ir__law_facts) (show DefIn K mg "_law_facts" ["vat", "board", "most"] s__law_facts from d ("_law_facts", ["vat", "board", "most"], s__law_facts) (List.mem_of_getElem? (i := 38) rfl)) (by decide +kernel) sc__law_facts ck__law_facts (ok__law_facts rfl rfl)
  have M40 : Md Γ P40 G (ecK K) P w K mg base 58 := M39.addD (f := 53) (F := F__law_numbers) (N := N__law_numbers) (ir := ir__law_numbers) (show DefIn K mg "_law_numbers" ["vat", "board"] s__law_numbers from d ("_law_numbers", ["vat", "board"], s__law_numbers) (List.mem_of_getElem? (i := 39) rfl)) (by decide +kernel) sc__law_numbers ck__law_numbers (fun args _ => ⟨0, rfl⟩)
  have M41 : Md Γ P41 G (ecK K) P w K mg base 59 := M40.addD (f := 54) (F := F__law_known) (N := N__law_known) (ir := ir__law_known) (show DefIn K mg "_law_known" [] s__law_known from d ("_law_known", [], s__law_known) (List.mem_of_getElem? (i := 42) rfl)) (by decide +kernel) sc__law_known ck__law_known (fun args _ => ⟨0, rfl⟩)
  have M42 : Md Γ P42 G (ecK K) P w K mg base 62 := M41.addDA (f := 55) (F := F__law_refused) (N := N__law_refused) (ir := ir__law_refused) (show DefIn K mg "_law_refused" ["vat", "board"] s__law_refused from d ("_law_refused", ["vat", "board"], s__law_refused) (List.mem_of_getElem? (i := 43) rfl)) (by decide +kernel) sc__law_refused ck__law_refused (fun a fd hm Fu y m hy => hatt _ (by decide) ("_law_refused", s__law_refused) (List.mem_of_getElem? (i := 0) rfl) a fd hm Fu y m hy) (fun args _ => ⟨0, rfl⟩)
  have M43 : Md Γ P43 G (ecK K) P w K mg base 63 := M42.addD (f := 56) (F := wrF) (N := N__law_written_k02) (ir := ir__law_written_k02) (show DefIn K mg "_law_written" [] s__law_written from d ("_law_written", [], s__law_written) (List.mem_of_getElem? (i := 44) rfl)) (by decide +kernel) sc__law_written ck__law_written (wr_ok written_ok)
  exact M43.lawD (F := fnP f_law_k02) (N := N_law_k02) (ir := ir_law_k02) (show DefIn K mg "law" ["script"] s_law from d ("law", ["script"], s_law) (List.mem_of_getElem? (i := 45) rfl)) sc_law ck_law (ok_law_k02 H2_ok rfl rfl (show PRefused (P43.fn 55) from H__law_refused) rfl)
/-- the def's own table of code objects -/
def tbs (K : PySem.W.Frag) : List (Addr × Addr) := tf.map (He.cT K)
def tbT (K : PySem.W.Frag) : List (Addr × Str) := tf.map fun p => ((He.cT K p).2, p.1 ++ ".<locals>." ++ "<lambda>")
end K
namespace K
open PySem PySem.Spec L2 Fw
theorem lam_tf : ∀ q ∈ lamD, ((q.1, none) : He.Defn) ∈ tf := fun q hq => by
  have h : lamD.map (fun q => ((q.1, none) : He.Defn)) = tf := rfl
  rw [← h]; exact List.mem_map.mpr ⟨q, hq, rfl⟩
theorem att_all {P : Program} {w : World} {K : PySem.W.Frag} {mg : Str → Option Value} {base h : Heap} (X : K.In h) (N : h.Ns mainGlobals mg) (c : He.SaysD fa fn K) (hex : ex K = true) (hdist : (tf.map fun p => (He.cT K p).2).Nodup) (TB : ∀ p ∈ tbs K, LamX.TabB base mg p.1 p.2) :
    ∀ k, 1 ≤ k → ∀ q ∈ lamD, ∀ (a : Addr) (fd : FuncData), mg q.1 = some (.ref a) → Fun K q.1 q.1 q.2 a fd → ∀ y m, Γ.atts.lookup y = some m → AttOk P w K mg base fd.code (q.1 ++ ".<locals>.") k (LamX.Tabs (tbT K)) (ecK K) nmL y m := by
  intro k hk q hq a fd hm Fu y m hy
  obtain ⟨k, rfl⟩ : ∃ j, k = j + 1 := ⟨k - 1, by omega⟩
  have hy2 : y = "_law_error" ∧ m = 0 := by
    have h1 : Γ.atts.all (fun p => p.1 == "_law_error" && p.2 == 0) = true := by decide +kernel
    have h2 := and2 (List.all_eq_true.mp h1 _ (mem_of_lookup hy))
    exact ⟨beq_iff_eq.mp h2.1, beq_iff_eq.mp h2.2⟩
  obtain ⟨rfl, rfl⟩ := hy2
  have dd := dfs_of X N c
  obtain ⟨fn', fdn, mn, Fn'⟩ := (dd ("_law_names", ["e"], s__law_names) (List.mem_of_getElem? (i := 40) rfl)).ex
  obtain ⟨ge, fde, me, Fe⟩ := (dd ("_law_error", ["call"], s__law_error) (List.mem_of_getElem? (i := 41) rfl)).ex
  obtain ⟨oc, od, kV, doc, pm, an, cdv, ct, osl, rfl, lk, hcd⟩ := Fu.ex
  obtain ⟨cc, rfl⟩ := He.codeIn_ref hcd
  have ht := lam_tf q hq
  have ea : a = He.ga K q.1 := by
    have hq1 : q.1 ∈ glos := by
      have h1 : lamD.all (fun p => glos.contains p.1) = true := by decide +kernel
      have := List.all_eq_true.mp h1 q hq
      simpa using this
    have e := hm.symm.trans (He.glo_ok X N (c.facts (fa_glo hq1)))
    cases e; rfl
  subst ea
  have ec : (He.cT K (q.1, none)).1 = cc := He.codeOf_eq (p := (q.1, none)) lk rfl
  have hmem : (He.cT K (q.1, none)) ∈ tbs K := List.mem_map.mpr ⟨_, ht, rfl⟩
  refine att_err (PT := (He.cT K (q.1, none)).2) Fn' (nmK_of X N c) mn.g mn.k mn.b (He.glo_ok X N (c.facts (fa_glo (by decide +kernel)))) Fe me.g me.k me.b (nm_ok hex) (by rw [← ec]; exact TB _ hmem) (List.mem_map.mpr ⟨_, ht, rfl⟩) fun p hp e => ?_
  obtain ⟨r, hr, rfl⟩ := List.mem_map.mp hp
  have : r = (q.1, none) := inj_of_nodup hdist hr ht e
  rw [this]
open HandSHeadRun in
theorem holds : PySem.Challenge.rw_anytallies_k02_whole_what_is_shown.Holds := by
  open PySem.W PySem.Calls PyProof.Rows in
  w_on; o_law
  refine HandSHeadRun.head_any (r := PySem.W.OpenLaw.row PySem.Challenge.rw_anytallies_k02_whole_what_is_shown) (q := PySem.W.view (PySem.W.OpenLaw.row PySem.Challenge.rw_anytallies_k02_whole_what_is_shown).prog [69]) (H := hkX) (ob := ob) (M := 20000) (loose := loose) (d := HandSHeadRun.topDef (PySem.W.OpenLaw.row PySem.Challenge.rw_anytallies_k02_whole_what_is_shown).prog 69) (kwd := []) ob_eq
    (by kernel_rfl) (fun s => by kernel_rfl) run (by kernel_rfl) (by kernel_rfl) (by kernel_rfl) (by rfl) (by first | assumption | decide +kernel) (by decide +kernel) ⟨rfl, rfl, rfl, rfl, rfl, by decide +kernel⟩ ?hw ?hc
  case hw => w_witness2
  case hc =>
    refine LamX.walk_ofTsE (l := PySem.Challenge.rw_anytallies_k02_whole_what_is_shown) (n := 63) (k := 64) (x := "script") (CX := fun w => L2N.CX (PySem.Challenge.rw_anytallies_k02_whole_what_is_shown).prog w) rfl (by decide) (by kernel_rfl) ⟨rfl, by decide, by decide⟩ ?F ?hCX
    case hCX =>
      intro w H s e s' ⟨a, B, H', cls, d, _, _, _, _, _, _, _, hE⟩
      exact hE
    case F =>
      intro w mg fa h Y N hmg0
      obtain ⟨K, KX, c⟩ := Y
      have hmg : mg ("law" : PySem.Str) = some (.ref fa) := by
        have e : (HandSHeadRun.topDef (PySem.W.OpenLaw.row PySem.Challenge.rw_anytallies_k02_whole_what_is_shown).prog 69).name = ("law" : PySem.Str) := by kernel_rfl
        rw [← e]
        exact hmg0
      have cd := He.SaysT.d c.t
      have hd : (tf.map fun p => (He.cT K p).2).Nodup := by simp [tf]
      obtain ⟨fdl, Fl⟩ := cd.defs (d := dd ("law", s_law)) (List.mem_map.mpr ⟨_, tab_dfs ("law", ["script"], s_law) (List.mem_of_getElem? (i := 45) rfl), rfl⟩)
      have el := hmg.symm.trans (He.glo_ok KX N (cd.facts (fa_glo (x := "law") (by decide +kernel))))
      cases el
      refine ⟨K, KX, fdl, tbs K, spOf K (LamX.Tabs (tbT K)) (ecK K) 1 (fnP f_law_k02), fun p hp => ?_, fun p hp => ?_, fun p hp => ?_, fun s u => ?_, fun H a ns hl hb hT hS => ?_, fun base hK hN TB => ?_⟩
      · obtain ⟨q, hq, rfl⟩ := List.mem_map.mp hp
        exact c.empty q hq
      · obtain ⟨q, hq, rfl⟩ := List.mem_map.mp hp
        exact c.out q hq
      · obtain ⟨q, hq, rfl⟩ := List.mem_map.mp hp
        exact PySem.W.codeHd_of_K KX (c.hd q hq)
      · exact FunD.bindsA (ps := ["script"]) Fl (fun _ _ _ _ _ _ us hl => match us, hl with | [_], _ => rfl) s [u] rfl
      · refine law_spOf (fun p hp => ?_) hS ?_ rfl
        · obtain ⟨q, hq, rfl⟩ := List.mem_map.mp hp
          exact LamX.TabS.nil (hT (He.cT K q) (List.mem_map.mpr ⟨q, hq, rfl⟩))
        · exact law_true_k02 hl
      · obtain ⟨a, fd, m, F2, ok⟩ := chain (P := (PySem.Challenge.rw_anytallies_k02_whole_what_is_shown).prog) (w := w) (base := base) (base_of (gok_tabs (tbT K)) KX N cd) (dfs_of KX N cd) (att_all (h := h) KX N cd c.more hd TB)
        have ea := hmg.symm.trans m.g
        cases ea
        have ef : fd = fdl := by
          obtain ⟨_, _, _, _, _, _, _, _, _, e1, l1, _⟩ := F2.ex
          obtain ⟨_, _, _, _, _, _, _, _, _, _, e2, l2, _⟩ := Fl.ex
          have l3 : K.lookup (He.ga K "law") = some ⟨_, _, .func fdl, _⟩ := l2
          rw [l1] at l3
          cases l3
          rfl
        subst ef
        exact ok
end K
theorem PySem.Challenge.cw_anytallies_k02_whole_what_is_shown_holds : PySem.Challenge.rw_anytallies_k02_whole_what_is_shown.Holds := by
  exact K.holds
