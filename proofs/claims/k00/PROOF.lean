import PyProof.Rows.All
import Wide.All
import OpenK.AllK
import Wide.FinOn
import HandS.ForMost
import HandS.ExcInit
import HandS.HeadHook1
import HandS.TupAny
import HandS.Wide
import HandS.Deep
import HandS.Style
import HandS.Conv
import HandS.Exc
import HandS.ExcOwn
import HandS.WordsExc
import KE.KExcSuper
import HandS.Base
import HandS.Call
import HandS.HeadWalk
import HandS.ExcField
import HandS.ExcIs
import HandS.IsInst
import HandS.Dict
import KE.KExcIs
import HandS.Small
import HandS.Head0
import HandS.Head1
import HandS.Head2
import HandS.HeadEnd
import HandS.HeadHook2
import KE.KStateDown
import PySem.Challenge.RW_somepoured_k00_errors_keep_their_value
set_option Elab.async false
set_option linter.all false
set_option maxRecDepth 100000
set_option maxHeartbeats 1000000
/-! D1: the evaluator's values, its small heap, how they lie in the layer's heap. -/
namespace Mi
open PySem L2

/-- a value of the evaluator: tuples (ct: of the module's own), and lists that nobody writes, by what they hold; things that change by their number in the small heap -/
inductive Val where
  | non | bl (b : Bool) | int (i : Int) | str (x : Str) | tup (xs : List Val) | ct (xs : List Val) | cl (xs : List Val) | loc (n : Nat)
  /-- an own exception that keeps a value (its class by name); a value of which nothing is known -/
  | err (c : Str) (v : Val) | opq
instance : Inhabited Val := ⟨.non⟩
/-- a thing that changes -/
inductive Ob where
  | lst (xs : List Val)
  | dK (kvs : List (Key × Val))
  | dT (kvs : List (List Key × Val))
  | ins (c : Str) (fs : List (Str × Val))
abbrev LH := List Ob
/-- what a run gives -/
inductive Res (α : Type) where
  | ok (a : α) (h : LH)
  | exc (c : Str) (v : Val) (h : LH)
  | bad
@[inline] def Res.bind {α β : Type} (r : Res α) (f : α → LH → Res β) : Res β := match r with
  | .ok a h => f a h
  | .exc c v h => .exc c v h
  | .bad => .bad

/-- a list that nobody writes -/
def FzL (K : PySem.W.Frag) (H : Hp) (a : Addr) (ys : List V) : Prop :=
  (∃ o, H a = some (.frz o (.lst ys))) ∨
    ∃ (o : Obj) (its : Array Value) (n : Nat), K.lookup a = some o ∧ o.cls = .type "list" ∧ o.dict = none ∧ o.data = .seq its n ∧ its.size ≤ sizeLine ∧ Vals ys its.toList
theorem FzL.sq {K : PySem.W.Frag} {H : Hp} {a : Addr} {ys : List V} (h : FzL K H a ys) : SqL K H a ys := by
  rcases h with ⟨o, h⟩ | h
  · exact .inl (.inr ⟨o, h⟩)
  · exact .inr h
theorem FzL.of_sq {K : PySem.W.Frag} {H : Hp} {a : Addr} {ys : List V} (h : SqL K H a ys) (n : ∀ zs, H a ≠ some (.lst zs)) : FzL K H a ys := by
  rcases h with (h | ⟨o, h⟩) | h
  · exact absurd h (n _)
  · exact .inl ⟨o, h⟩
  · exact .inr h

/-- a tuple of the module's own -/
def WrT (K : PySem.W.Frag) (a : Addr) (xs : List V) : Prop := ∃ (o : Obj) (its : Array Value) (n : Nat), K.lookup a = some o ∧ o.cls = .type "tuple" ∧ o.data = .seq its n ∧ its.size ≤ sizeLine ∧ Vals xs its.toList
theorem WrT.sq {K : PySem.W.Frag} {H : Hp} {a : Addr} {ys : List V} (h : WrT K a ys) : SqT K H a ys := .inr h
section
variable (K : PySem.W.Frag) (ia : List Addr) (H : Hp)
mutual
inductive RV : Val → V → Prop
  | non : RV .non .non
  | bl (b : Bool) : RV (.bl b) (.bl b)
  | int (i : Int) : RV (.int i) (.int i)
  | str (x : Str) : RV (.str x) (.str x)
  | loc {n : Nat} {a : Addr} : ia[n]? = some a → RV (.loc n) (.ref a)
  | tup {xs : List Val} {ys : List V} {a : Addr} : H a = some (.tup ys) → RVs xs ys → RV (.tup xs) (.ref a)
  | ct {xs : List Val} {ys : List V} {a : Addr} : WrT K a ys → RVs xs ys → RV (.ct xs) (.ref a)
  | cl {xs : List Val} {ys : List V} {a : Addr} : FzL K H a ys → RVs xs ys → RV (.cl xs) (.ref a)
  | err {c : Str} {v : Val} {w : V} {a d : Addr} : H a = some (exo a (He.ga K c) (some d)) → H d = some (exd d [("value", w)]) → RV v w → RV (.err c v) (.ref a)
inductive RVs : List Val → List V → Prop
  | nil : RVs [] []
  | cons {x : Val} {xs : List Val} {y : V} {ys : List V} : RV x y → RVs xs ys → RVs (x :: xs) (y :: ys)
end
end

/-- the pairs of a dict -/
inductive RKV (K : PySem.W.Frag) (ia : List Addr) (H : Hp) {k : Type} : List (k × Val) → List (k × V) → Prop
  | nil : RKV K ia H [] []
  | cons {x : k} {v : Val} {w : V} {xs : List (k × Val)} {ys : List (k × V)} : RV K ia H v w → RKV K ia H xs ys → RKV K ia H ((x, v) :: xs) ((x, w) :: ys)

/-- how a thing lies at an address -/
def RO (K : PySem.W.Frag) (ca : Str → Addr) (ia : List Addr) (H : Hp) (a : Addr) : Ob → Prop
  | .lst xs => ∃ ys, H a = some (.lst ys) ∧ RVs K ia H xs ys
  | .dK kvs => ∃ kws, H a = some (.dK kws) ∧ RKV K ia H kvs kws
  | .dT kvs => ∃ kws, H a = some (.dT kws) ∧ RKV K ia H kvs kws
  | .ins c fs => ∃ dx gs, H a = some (.ins (ca c) dx gs) ∧ RKV K ia H fs gs

/-- the small heap lies in the layer's, at the addresses ia -/
structure Rep (K : PySem.W.Frag) (ca : Str → Addr) (ia : List Addr) (H : Hp) (h : LH) : Prop where
  len : ia.length = h.length
  nd : ia.Nodup
  ob : ∀ (n : Nat) (o : Ob) (a : Addr), h[n]? = some o → ia[n]? = some a → RO K ca ia H a o

/-- what lies elsewhere stays; nothing goes; what is new was free -/
structure Grow (ia : List Addr) (H : Hp) (ka : List Addr) (H' : Hp) : Prop where
  out : ∀ b o, H b = some o → b ∉ ia → H' b = some o
  old : ∀ b o, H b = some o → ∃ o', H' b = some o'
  new : ∀ b, b ∈ ka → H b = none

theorem Grow.refl (ia : List Addr) (H : Hp) : Grow ia H [] H := ⟨fun _ _ h _ => h, fun _ o h => ⟨o, h⟩, fun _ h => nomatch h⟩
theorem Grow.trans {ia ka la : List Addr} {H H1 H2 : Hp} (g : Grow ia H ka H1) (g2 : Grow (ia ++ ka) H1 la H2) : Grow ia H (ka ++ la) H2 := by
  refine ⟨fun b o h n => ?_, fun b o h => ?_, fun b h => ?_⟩
  · refine g2.out b o (g.out b o h n) fun z => ?_
    rcases List.mem_append.mp z with z | z
    · exact n z
    · rw [g.new b z] at h
      cases h
  · obtain ⟨o1, h1⟩ := g.old b o h
    exact g2.old b o1 h1
  · rcases List.mem_append.mp h with z | z
    · exact g.new b z
    · have e := g2.new b z
      cases q : H b with
      | none => rfl
      | some o =>
        obtain ⟨o1, h1⟩ := g.old b o q
        rw [h1] at e
        cases e

/-! ### what a value tells stays -/
section
variable {K : PySem.W.Frag} {ca : Str → Addr} {ia ka : List Addr} {H H' : Hp} {h : LH}
/-- at the small heap's places stand things that change -/
theorem Rep.mem (R : Rep K ca ia H h) {a : Addr} (m : a ∈ ia) : ∃ o, RO K ca ia H a o := by
  obtain ⟨n, hn, e⟩ := List.getElem_of_mem m
  have hn' : n < h.length := by rw [← R.len]; exact hn
  exact ⟨h[n], R.ob n _ a (List.getElem?_eq_getElem hn') (by rw [List.getElem?_eq_getElem hn, e])⟩
theorem Rep.no_tup (R : Rep K ca ia H h) {a : Addr} {ys : List V} (e : H a = some (.tup ys)) : a ∉ ia := fun m => by
  obtain ⟨o, r⟩ := R.mem m
  cases o with
  | lst _ => obtain ⟨_, q, _⟩ := r; rw [e] at q; cases q
  | dK _ => obtain ⟨_, q, _⟩ := r; rw [e] at q; cases q
  | dT _ => obtain ⟨_, q, _⟩ := r; rw [e] at q; cases q
  | ins _ _ => obtain ⟨_, _, q, _⟩ := r; rw [e] at q; cases q
theorem Rep.no_frz (R : Rep K ca ia H h) {a : Addr} {ob : Obj} {u : HO} (e : H a = some (.frz ob u)) : a ∉ ia := fun m => by
  obtain ⟨o, r⟩ := R.mem m
  cases o with
  | lst _ => obtain ⟨_, q, _⟩ := r; rw [e] at q; cases q
  | dK _ => obtain ⟨_, q, _⟩ := r; rw [e] at q; cases q
  | dT _ => obtain ⟨_, q, _⟩ := r; rw [e] at q; cases q
  | ins _ _ => obtain ⟨_, _, q, _⟩ := r; rw [e] at q; cases q
theorem Rep.no_ext (R : Rep K ca ia H h) {a : Addr} {f : Heap → Prop} (e : H a = some (.ext f)) : a ∉ ia := fun m => by
  obtain ⟨o, r⟩ := R.mem m
  cases o with
  | lst _ => obtain ⟨_, q, _⟩ := r; rw [e] at q; cases q
  | dK _ => obtain ⟨_, q, _⟩ := r; rw [e] at q; cases q
  | dT _ => obtain ⟨_, q, _⟩ := r; rw [e] at q; cases q
  | ins _ _ => obtain ⟨_, _, q, _⟩ := r; rw [e] at q; cases q
theorem sqt_stay {a : Addr} {ys : List V} (s : SqT K H a ys) (hs : ∀ zs, H a = some (.tup zs) → H' a = some (.tup zs)) (hf : ∀ o u, H a = some (.frz o u) → H' a = some (.frz o u)) : SqT K H' a ys := by
  rcases s with (s | ⟨o, s⟩) | s
  · exact .inl (.inl (hs _ s))
  · exact .inl (.inr ⟨o, hf _ _ s⟩)
  · exact .inr s
theorem FzL.stay {a : Addr} {ys : List V} (s : FzL K H a ys) (hf : ∀ o u, H a = some (.frz o u) → H' a = some (.frz o u)) : FzL K H' a ys := by
  rcases s with ⟨o, s⟩ | s
  · exact .inl ⟨o, hf _ _ s⟩
  · exact .inr s
/-- tuples and frozen things stay -/
structure Hold (H H' : Hp) : Prop where
  tup : ∀ a zs, H a = some (.tup zs) → H' a = some (.tup zs)
  frz : ∀ a o u, H a = some (.frz o u) → H' a = some (.frz o u)
  ext : ∀ a f, H a = some (.ext f) → H' a = some (.ext f)
theorem Hold.refl (H : Hp) : Hold H H := ⟨fun _ _ h => h, fun _ _ _ h => h, fun _ _ h => h⟩
theorem Hold.new {a : Addr} {o : HO} (n : H a = none) : Hold H (upd H a o) :=
  ⟨fun b _ e => by rw [upd_ne (ne_of_none e n)]; exact e, fun b _ _ e => by rw [upd_ne (ne_of_none e n)]; exact e, fun b _ e => by rw [upd_ne (ne_of_none e n)]; exact e⟩
mutual
theorem RV.stay (k : Hold H H') : ∀ {v : Val} {w : V}, RV K ia H v w → RV K (ia ++ ka) H' v w
  | _, _, .non => .non
  | _, _, .bl b => .bl b
  | _, _, .int i => .int i
  | _, _, .str x => .str x
  | _, _, .loc e => .loc (by rw [List.getElem?_append_left (List.getElem?_eq_some_iff.mp e).1]; exact e)
  | _, _, .tup s r => .tup (k.tup _ _ s) (RVs.stay k r)
  | _, _, .ct s r => .ct s (RVs.stay k r)
  | _, _, .cl s r => .cl (s.stay (k.frz _)) (RVs.stay k r)
  | _, _, .err s d r => .err (k.ext _ _ s) (k.ext _ _ d) (RV.stay k r)
theorem RVs.stay (k : Hold H H') : ∀ {v : List Val} {w : List V}, RVs K ia H v w → RVs K (ia ++ ka) H' v w
  | _, _, .nil => .nil
  | _, _, .cons a b => .cons (RV.stay k a) (RVs.stay k b)
end
theorem RKV.stay {t : Type} (k : Hold H H') : ∀ {v : List (t × Val)} {w : List (t × V)}, RKV K ia H v w → RKV K (ia ++ ka) H' v w
  | _, _, .nil => .nil
  | _, _, .cons a b => .cons (a.stay k) (RKV.stay k b)
theorem Grow.hold (g : Grow ia H ka H') (R : Rep K ca ia H h) : Hold H H' :=
  ⟨fun a zs e => g.out a _ e (R.no_tup e), fun a o u e => g.out a _ e (R.no_frz e), fun a f e => g.out a _ e (R.no_ext e)⟩
theorem RV.grow {v : Val} {w : V} (r : RV K ia H v w) (g : Grow ia H ka H') (R : Rep K ca ia H h) : RV K (ia ++ ka) H' v w := r.stay (g.hold R)
theorem RVs.grow {v : List Val} {w : List V} (r : RVs K ia H v w) (g : Grow ia H ka H') (R : Rep K ca ia H h) : RVs K (ia ++ ka) H' v w := r.stay (g.hold R)
theorem RVs.len : ∀ {v : List Val} {w : List V}, RVs K ia H v w → v.length = w.length
  | _, _, .nil => rfl
  | _, _, .cons _ r => by simp [RVs.len r]
theorem RVs.get : ∀ {v : List Val} {w : List V} {i : Nat} {x : Val}, RVs K ia H v w → v[i]? = some x → ∃ y, w[i]? = some y ∧ RV K ia H x y
  | _, _, _, _, .nil, e => by simp at e
  | _, _, 0, _, .cons a _, e => by simp at e; subst e; exact ⟨_, rfl, a⟩
  | _, _, i + 1, x, .cons _ r, e => by
    obtain ⟨y, h1, h2⟩ := RVs.get (i := i) (x := x) r (by simpa using e)
    exact ⟨y, by simpa using h1, h2⟩
theorem RVs.app : ∀ {v v' : List Val} {w w' : List V}, RVs K ia H v w → RVs K ia H v' w' → RVs K ia H (v ++ v') (w ++ w')
  | _, _, _, _, .nil, s => s
  | _, _, _, _, .cons a r, s => .cons a (RVs.app r s)
theorem RVs.take : ∀ {v : List Val} {w : List V} (n : Nat), RVs K ia H v w → RVs K ia H (v.take n) (w.take n)
  | _, _, 0, _ => .nil
  | _, _, _ + 1, .nil => .nil
  | _, _, n + 1, .cons a r => .cons a (RVs.take n r)
theorem RVs.drop : ∀ {v : List Val} {w : List V} (n : Nat), RVs K ia H v w → RVs K ia H (v.drop n) (w.drop n)
  | _, _, 0, r => r
  | _, _, _ + 1, .nil => .nil
  | _, _, n + 1, .cons _ r => RVs.drop n r
theorem RVs.set {x : Val} {y : V} (r : RV K ia H x y) : ∀ {v : List Val} {w : List V} (i : Nat), RVs K ia H v w → RVs K ia H (v.set i x) (w.set i y)
  | _, _, _, .nil => .nil
  | _, _, 0, .cons _ t => .cons r t
  | _, _, i + 1, .cons a t => .cons a (RVs.set r i t)

/-! ### a new thing, a thing changed -/
/-- a thing of the small heap, looked up -/
theorem Rep.at_ (R : Rep K ca ia H h) {n : Nat} {a : Addr} {o : Ob} (e : h[n]? = some o) (r : ia[n]? = some a) : RO K ca ia H a o := R.ob n o a e r
theorem RO.stay {a : Addr} {o : Ob} (k : Hold H H') (e : H' a = H a) (r : RO K ca ia H a o) : RO K ca (ia ++ ka) H' a o := by
  cases o with
  | lst xs => obtain ⟨ys, q, s⟩ := r; exact ⟨ys, e.trans q, s.stay k⟩
  | dK xs => obtain ⟨ys, q, s⟩ := r; exact ⟨ys, e.trans q, s.stay k⟩
  | dT xs => obtain ⟨ys, q, s⟩ := r; exact ⟨ys, e.trans q, s.stay k⟩
  | ins c xs => obtain ⟨dx, ys, q, s⟩ := r; exact ⟨dx, ys, e.trans q, s.stay k⟩
theorem app_nil (l : List Addr) : l ++ ([] : List Addr) = l := List.append_nil l
/-- a new thing -/
theorem Rep.push (R : Rep K ca ia H h) {p : Addr} {o : Ob} {O : HO} (n : H p = none) (r : RO K ca (ia ++ [p]) (upd H p O) p o) : Rep K ca (ia ++ [p]) (upd H p O) (h ++ [o]) := by
  have np : p ∉ ia := fun m => by
    obtain ⟨o', r'⟩ := R.mem m
    cases o' with
    | lst _ => obtain ⟨_, q, _⟩ := r'; rw [n] at q; cases q
    | dK _ => obtain ⟨_, q, _⟩ := r'; rw [n] at q; cases q
    | dT _ => obtain ⟨_, q, _⟩ := r'; rw [n] at q; cases q
    | ins _ _ => obtain ⟨_, _, q, _⟩ := r'; rw [n] at q; cases q
  refine ⟨by simp [R.len], ?_, fun m o' a e1 e2 => ?_⟩
  · rw [List.nodup_append]
    refine ⟨R.nd, by simp, fun x hx y hy z => ?_⟩
    have e : y = p := by simpa using hy
    exact np (by rw [← e, ← z]; exact hx)
  · by_cases hm : m < h.length
    · rw [List.getElem?_append_left hm] at e1
      have hm' : m < ia.length := by rw [R.len]; exact hm
      rw [List.getElem?_append_left hm'] at e2
      have ne : a ≠ p := fun z => np (by rw [← z]; exact List.mem_of_getElem? e2)
      exact (R.ob m o' a e1 e2).stay (Hold.new n) (upd_ne ne)
    · have hm2 : m = h.length := by
        have := (List.getElem?_eq_some_iff.mp e1).1
        simp at this
        omega
      subst hm2
      have e1' : o = o' := by simpa using e1
      have e2' : p = a := by
        rw [← R.len] at e2
        simpa using e2
      subst e1' e2'
      exact r
theorem Grow.push {p : Addr} {O : HO} (n : H p = none) : Grow ia H [p] (upd H p O) :=
  ⟨fun b o e _ => by rw [upd_ne (ne_of_none e n)]; exact e, fun b o e => ⟨o, by rw [upd_ne (ne_of_none e n)]; exact e⟩, fun b hb => by
    have e : b = p := by simpa using hb
    rw [e]; exact n⟩
/-- a thing changed -/
theorem Rep.set (R : Rep K ca ia H h) {m : Nat} {p : Addr} {o : Ob} {O : HO} (hm : ia[m]? = some p) (k : Hold H (upd H p O)) (r : RO K ca ia (upd H p O) p o) : Rep K ca ia (upd H p O) (h.set m o) := by
  refine ⟨by simp [R.len], R.nd, fun j o' a e1 e2 => ?_⟩
  by_cases hj : j = m
  · subst hj
    rw [hm] at e2
    cases e2
    have hl : j < h.length := by rw [← R.len]; exact (List.getElem?_eq_some_iff.mp hm).1
    rw [List.getElem?_set_self hl] at e1
    cases e1
    exact r
  · rw [List.getElem?_set_ne (Ne.symm hj)] at e1
    have ne : a ≠ p := fun z => by
      subst z
      obtain ⟨h1, e3⟩ := List.getElem?_eq_some_iff.mp e2
      obtain ⟨h2, e4⟩ := List.getElem?_eq_some_iff.mp hm
      exact hj ((List.getElem_inj R.nd).mp (e3.trans e4.symm))
    have q := (R.ob j o' a e1 e2).stay (ka := []) k (upd_ne ne)
    rw [app_nil] at q
    exact q
theorem Grow.set {m : Nat} {p : Addr} {O : HO} {u : HO} (hm : ia[m]? = some p) (e0 : H p = some u) : Grow ia H [] (upd H p O) := by
  refine ⟨fun b o e nb => ?_, fun b o e => ?_, fun b hb => nomatch hb⟩
  · have ne : b ≠ p := fun z => nb (by rw [z]; exact List.mem_of_getElem? hm)
    rw [upd_ne ne]; exact e
  · by_cases hb : b = p
    · rw [hb, upd_same]; exact ⟨_, rfl⟩
    · rw [upd_ne hb]; exact ⟨o, e⟩
theorem Hold.set {p : Addr} {O u : HO} (e : H p = some u) (h1 : ∀ zs, u ≠ .tup zs) (h2 : ∀ o w, u ≠ .frz o w) (h3 : ∀ f, u ≠ .ext f := by intro f z; cases z) : Hold H (upd H p O) := by
  refine ⟨fun a zs q => ?_, fun a o w q => ?_, fun a f q => ?_⟩
  · have ne : a ≠ p := fun z => by rw [z, e] at q; exact h1 zs (Option.some.inj q)
    rw [upd_ne ne]; exact q
  · have ne : a ≠ p := fun z => by rw [z, e] at q; exact h2 o w (Option.some.inj q)
    rw [upd_ne ne]; exact q
  · have ne : a ≠ p := fun z => by rw [z, e] at q; exact h3 f (Option.some.inj q)
    rw [upd_ne ne]; exact q
end
end Mi

set_option Elab.async false
set_option linter.all false
set_option maxRecDepth 100000
set_option maxHeartbeats 1000000
/-! D2: what a run wants of the layer. -/
namespace Mi
open PySem L2
abbrev LS := List (Option Val)
/-- the slots -/
structure RS (K : PySem.W.Frag) (ia : List Addr) (H : Hp) (sl : LS) (st : St) : Prop where
  len : sl.length = st.length
  at_ : ∀ (i : Nat) (v : Val), sl[i]? = some (some v) → ∃ w, st[i]? = some (some w) ∧ RV K ia H v w
section
variable {K : PySem.W.Frag} {ca : Str → Addr} {ia ka : List Addr} {H H' : Hp} {h : LH}
theorem RS.stay {sl : LS} {st : St} (k : Hold H H') (r : RS K ia H sl st) : RS K (ia ++ ka) H' sl st :=
  ⟨r.len, fun i v e => let ⟨w, q, z⟩ := r.at_ i v e; ⟨w, q, z.stay k⟩⟩
theorem RS.grow {sl : LS} {st : St} (r : RS K ia H sl st) (g : Grow ia H ka H') (R : Rep K ca ia H h) : RS K (ia ++ ka) H' sl st := r.stay (g.hold R)
theorem RS.set {sl : LS} {st : St} {i : Nat} {v : Val} {w : V} (r : RS K ia H sl st) (q : RV K ia H v w) : RS K ia H (sl.set i (some v)) (st.set i (some w)) := by
  refine ⟨by simp [r.len], fun j u e => ?_⟩
  by_cases hj : i = j
  · subst hj
    by_cases hi : i < sl.length
    · rw [List.getElem?_set_self hi] at e
      cases e
      exact ⟨w, List.getElem?_set_self (by rw [← r.len]; exact hi), q⟩
    · rw [List.getElem?_eq_none (by simpa using hi)] at e
      cases e
  · rw [List.getElem?_set_ne hj] at e
    obtain ⟨w', e', q'⟩ := r.at_ j u e
    exact ⟨w', by rw [List.getElem?_set_ne hj]; exact e', q'⟩
end

section
variable (K : PySem.W.Frag) (ca : Str → Addr)
/-- a result's wish: of a value and a heap, of an exception -/
def Want (ia : List Addr) (H : Hp) (r : Res Val) (Q : VK) (E : XK) : Prop := match r with
  | .ok v h' => ∀ (ka : List Addr) (H' : Hp) (w : V), Grow ia H ka H' → Rep K ca (ia ++ ka) H' h' → RV K (ia ++ ka) H' v w → Q w H'
  | .exc c v h' => ∀ (ka : List Addr) (H' : Hp) (d : Addr) (w : V), Grow ia H ka H' → Rep K ca (ia ++ ka) H' h' → H' d = some (.xd [("value", w)]) → RV K (ia ++ ka) H' v w → E (.ref (ca c)) (some d) H'
  | .bad => False
def WantL (ia : List Addr) (H : Hp) (r : Res (List Val)) (Q : List V → Hp → Prop) (E : XK) : Prop := match r with
  | .ok v h' => ∀ (ka : List Addr) (H' : Hp) (w : List V), Grow ia H ka H' → Rep K ca (ia ++ ka) H' h' → RVs K (ia ++ ka) H' v w → Q w H'
  | .exc c v h' => ∀ (ka : List Addr) (H' : Hp) (d : Addr) (w : V), Grow ia H ka H' → Rep K ca (ia ++ ka) H' h' → H' d = some (.xd [("value", w)]) → RV K (ia ++ ka) H' v w → E (.ref (ca c)) (some d) H'
  | .bad => False
def WantB (ia : List Addr) (H : Hp) (r : Res Bool) (Q : Bool → Hp → Prop) (E : XK) : Prop := match r with
  | .ok v h' => ∀ (ka : List Addr) (H' : Hp), Grow ia H ka H' → Rep K ca (ia ++ ka) H' h' → Q v H'
  | .exc c v h' => ∀ (ka : List Addr) (H' : Hp) (d : Addr) (w : V), Grow ia H ka H' → Rep K ca (ia ++ ka) H' h' → H' d = some (.xd [("value", w)]) → RV K (ia ++ ka) H' v w → E (.ref (ca c)) (some d) H'
  | .bad => False
/-- the wish of an exception among the slots -/
abbrev WS := Value → Option Addr → St → Hp → Prop
abbrev M (a : Type) := LS → LH → Res a
/-- an expression's reading, by its run; vs, xs: values in hand -/
def tC (W : WS) (vs : List Val) (xs : List V) (m : M Val) : TE := fun st H Q => ∃ (ia : List Addr) (sl : LS) (h : LH), Rep K ca ia H h ∧ RS K ia H sl st ∧ RVs K ia H vs xs ∧ Want K ca ia H (m sl h) Q (fun c d H' => W c d st H')
def tCL (W : WS) (vs : List Val) (xs : List V) (m : M (List Val)) : TA := fun st H Q => ∃ (ia : List Addr) (sl : LS) (h : LH), Rep K ca ia H h ∧ RS K ia H sl st ∧ RVs K ia H vs xs ∧ WantL K ca ia H (m sl h) Q (fun c d H' => W c d st H')
def tCB (W : WS) (vs : List Val) (xs : List V) (m : M Bool) : TT := fun st H Q => ∃ (ia : List Addr) (sl : LS) (h : LH), Rep K ca ia H h ∧ RS K ia H sl st ∧ RVs K ia H vs xs ∧ WantB K ca ia H (m sl h) Q (fun c d H' => W c d st H')
abbrev tOf (W : WS) (m : M Val) : TE := tC K ca W [] [] m
abbrev tOfL (W : WS) (m : M (List Val)) : TA := tCL K ca W [] [] m
abbrev tOfB (W : WS) (m : M Bool) : TT := tCB K ca W [] [] m
end

section
variable {K : PySem.W.Frag} {ca : Str → Addr} {ia ka : List Addr} {H H1 : Hp} {h : LH} {W : WS} {vs : List Val} {xs : List V} {st : St}
theorem Want.shift {r : Res Val} {Q : VK} {E : XK} (w : Want K ca ia H r Q E) (g : Grow ia H ka H1) : Want K ca (ia ++ ka) H1 r Q E := by
  cases r with
  | bad => exact w
  | ok v h' =>
    intro la H' y g2 R r
    rw [List.append_assoc] at R r
    exact w (ka ++ la) H' y (g.trans g2) R r
  | exc c v h' =>
    intro la H' d y g2 R hd r
    rw [List.append_assoc] at R r
    exact w (ka ++ la) H' d y (g.trans g2) R hd r
theorem WantL.shift {r : Res (List Val)} {Q : List V → Hp → Prop} {E : XK} (w : WantL K ca ia H r Q E) (g : Grow ia H ka H1) : WantL K ca (ia ++ ka) H1 r Q E := by
  cases r with
  | bad => exact w
  | ok v h' =>
    intro la H' y g2 R r
    rw [List.append_assoc] at R r
    exact w (ka ++ la) H' y (g.trans g2) R r
  | exc c v h' =>
    intro la H' d y g2 R hd r
    rw [List.append_assoc] at R r
    exact w (ka ++ la) H' d y (g.trans g2) R hd r
theorem WantB.shift {r : Res Bool} {Q : Bool → Hp → Prop} {E : XK} (w : WantB K ca ia H r Q E) (g : Grow ia H ka H1) : WantB K ca (ia ++ ka) H1 r Q E := by
  cases r with
  | bad => exact w
  | ok v h' =>
    intro la H' g2 R
    rw [List.append_assoc] at R
    exact w (ka ++ la) H' (g.trans g2) R
  | exc c v h' =>
    intro la H' d y g2 R hd r
    rw [List.append_assoc] at R r
    exact w (ka ++ la) H' d y (g.trans g2) R hd r
theorem Want.mono {r : Res Val} {Q Q' : VK} {E : XK} (w : Want K ca ia H r Q E) (k : ∀ x H', Q x H' → Q' x H') : Want K ca ia H r Q' E := by
  cases r with
  | bad => exact w
  | ok v h' => exact fun la H' y g R r => k _ _ (w la H' y g R r)
  | exc c v h' => exact w
theorem tC.mono {m : M Val} {Q Q' : VK} (t : tC K ca W vs xs m st H Q) (k : ∀ x H', Q x H' → Q' x H') : tC K ca W vs xs m st H Q' := by
  obtain ⟨ia, sl, h, R, S, V, w⟩ := t
  exact ⟨ia, sl, h, R, S, V, w.mono k⟩
/-- the value is at hand: what is wanted of it -/
theorem Want.now {v : Val} {y : V} {Q : VK} {E : XK} (w : Want K ca ia H (.ok v h) Q E) (R : Rep K ca ia H h) (r : RV K ia H v y) : Q y H := by
  have := w [] H y (Grow.refl ia H) (by rw [app_nil]; exact R) (by rw [app_nil]; exact r)
  exact this
theorem WantL.now {v : List Val} {y : List V} {Q : List V → Hp → Prop} {E : XK} (w : WantL K ca ia H (.ok v h) Q E) (R : Rep K ca ia H h) (r : RVs K ia H v y) : Q y H :=
  w [] H y (Grow.refl ia H) (by rw [app_nil]; exact R) (by rw [app_nil]; exact r)
theorem WantB.now {b : Bool} {Q : Bool → Hp → Prop} {E : XK} (w : WantB K ca ia H (.ok b h) Q E) (R : Rep K ca ia H h) : Q b H :=
  w [] H (Grow.refl ia H) (by rw [app_nil]; exact R)
/-- a run, then what follows it -/
theorem tC.step {m : M Val} {f : Val → M Val} {Q : VK} (t : tC K ca W vs xs (fun sl h => (m sl h).bind fun v h1 => f v sl h1) st H Q) :
    tOf K ca W m st H (fun x H1 => ∃ v, tC K ca W (v :: vs) (x :: xs) (f v) st H1 Q) := by
  obtain ⟨ia, sl, h, R, S, V, w⟩ := t
  refine ⟨ia, sl, h, R, S, .nil, ?_⟩
  dsimp only at w
  cases e : m sl h with
  | bad => rw [e] at w; exact w
  | exc c v h' => rw [e] at w; exact w
  | ok v h1 =>
    rw [e] at w
    exact fun ka H1 x g R1 r1 => ⟨v, ia ++ ka, sl, h1, R1, S.grow g R, .cons r1 (V.grow g R), Want.shift w g⟩
theorem tC.stepL {m : M (List Val)} {f : List Val → M Val} {Q : VK} (t : tC K ca W vs xs (fun sl h => (m sl h).bind fun v h1 => f v sl h1) st H Q) :
    tOfL K ca W m st H (fun ys H1 => ∃ ws, tC K ca W (ws ++ vs) (ys ++ xs) (f ws) st H1 Q ∧ ws.length = ys.length) := by
  obtain ⟨ia, sl, h, R, S, V, w⟩ := t
  refine ⟨ia, sl, h, R, S, .nil, ?_⟩
  dsimp only at w
  cases e : m sl h with
  | bad => rw [e] at w; exact w
  | exc c v h' => rw [e] at w; exact w
  | ok v h1 =>
    rw [e] at w
    exact fun ka H1 x g R1 r1 => ⟨v, ⟨ia ++ ka, sl, h1, R1, S.grow g R, r1.app (V.grow g R), Want.shift w g⟩, r1.len⟩
theorem tC.stepB {m : M Bool} {f : Bool → M Val} {Q : VK} (t : tC K ca W vs xs (fun sl h => (m sl h).bind fun v h1 => f v sl h1) st H Q) :
    tOfB K ca W m st H (fun b H1 => tC K ca W vs xs (f b) st H1 Q) := by
  obtain ⟨ia, sl, h, R, S, V, w⟩ := t
  refine ⟨ia, sl, h, R, S, .nil, ?_⟩
  dsimp only at w
  cases e : m sl h with
  | bad => rw [e] at w; exact w
  | exc c v h' => rw [e] at w; exact w
  | ok v h1 =>
    rw [e] at w
    exact fun ka H1 g R1 => ⟨ia ++ ka, sl, h1, R1, S.grow g R, V.grow g R, Want.shift w g⟩
theorem tCB.step {m : M Val} {f : Val → M Bool} {Q : Bool → Hp → Prop} (t : tCB K ca W vs xs (fun sl h => (m sl h).bind fun v h1 => f v sl h1) st H Q) :
    tOf K ca W m st H (fun x H1 => ∃ v, tCB K ca W (v :: vs) (x :: xs) (f v) st H1 Q) := by
  obtain ⟨ia, sl, h, R, S, V, w⟩ := t
  refine ⟨ia, sl, h, R, S, .nil, ?_⟩
  dsimp only at w
  cases e : m sl h with
  | bad => rw [e] at w; exact w
  | exc c v h' => rw [e] at w; exact w
  | ok v h1 =>
    rw [e] at w
    exact fun ka H1 x g R1 r1 => ⟨v, ia ++ ka, sl, h1, R1, S.grow g R, .cons r1 (V.grow g R), WantB.shift w g⟩
theorem tCB.stepB {m : M Bool} {f : Bool → M Bool} {Q : Bool → Hp → Prop} (t : tCB K ca W vs xs (fun sl h => (m sl h).bind fun v h1 => f v sl h1) st H Q) :
    tOfB K ca W m st H (fun b H1 => tCB K ca W vs xs (f b) st H1 Q) := by
  obtain ⟨ia, sl, h, R, S, V, w⟩ := t
  refine ⟨ia, sl, h, R, S, .nil, ?_⟩
  dsimp only at w
  cases e : m sl h with
  | bad => rw [e] at w; exact w
  | exc c v h' => rw [e] at w; exact w
  | ok v h1 =>
    rw [e] at w
    exact fun ka H1 g R1 => ⟨ia ++ ka, sl, h1, R1, S.grow g R, V.grow g R, WantB.shift w g⟩
theorem tCL.step {m : M Val} {f : Val → M (List Val)} {Q : List V → Hp → Prop} (t : tCL K ca W vs xs (fun sl h => (m sl h).bind fun v h1 => f v sl h1) st H Q) :
    tOf K ca W m st H (fun x H1 => ∃ v, tCL K ca W (v :: vs) (x :: xs) (f v) st H1 Q) := by
  obtain ⟨ia, sl, h, R, S, V, w⟩ := t
  refine ⟨ia, sl, h, R, S, .nil, ?_⟩
  dsimp only at w
  cases e : m sl h with
  | bad => rw [e] at w; exact w
  | exc c v h' => rw [e] at w; exact w
  | ok v h1 =>
    rw [e] at w
    exact fun ka H1 x g R1 r1 => ⟨v, ia ++ ka, sl, h1, R1, S.grow g R, .cons r1 (V.grow g R), WantL.shift w g⟩
theorem tCL.stepL {m : M (List Val)} {f : List Val → M (List Val)} {Q : List V → Hp → Prop} (t : tCL K ca W vs xs (fun sl h => (m sl h).bind fun v h1 => f v sl h1) st H Q) :
    tOfL K ca W m st H (fun ys H1 => ∃ ws, tCL K ca W (ws ++ vs) (ys ++ xs) (f ws) st H1 Q ∧ ws.length = ys.length) := by
  obtain ⟨ia, sl, h, R, S, V, w⟩ := t
  refine ⟨ia, sl, h, R, S, .nil, ?_⟩
  dsimp only at w
  cases e : m sl h with
  | bad => rw [e] at w; exact w
  | exc c v h' => rw [e] at w; exact w
  | ok v h1 =>
    rw [e] at w
    exact fun ka H1 x g R1 r1 => ⟨v, ⟨ia ++ ka, sl, h1, R1, S.grow g R, r1.app (V.grow g R), WantL.shift w g⟩, r1.len⟩
end

/-! ### readings weakened -/
section
variable {X : Cx}
theorem pe_imp {e : Expr} {t t' : TE} (h : PE X e t) (k : ∀ st H Q, t' st H Q → t st H Q) : PE X e t' := ⟨fun pins s st H Q I q => h.run pins s st H Q I (k st H Q q)⟩
theorem pt_imp {e : Expr} {t t' : TT} (h : PT X e t) (k : ∀ st H Q, t' st H Q → t st H Q) : PT X e t' := ⟨fun pins s st H Q I q => h.run pins s st H Q I (k st H Q q)⟩
theorem pa_imp {e : List Expr} {t t' : TA} (h : PA X e t) (k : ∀ st H Q, t' st H Q → t st H Q) : PA X e t' := ⟨fun pos pins s st H Q I q => h.run pos pins s st H Q I (k st H Q q)⟩
theorem ps_imp {e : Stmt} {t t' : TS} (h : PS X e t) (k : ∀ D st H, t' D st H → t D st H) : PS X e t' := ⟨fun pins s st H D I q => h.run pins s st H D I (k D st H q)⟩
theorem pss_imp {e : List Stmt} {t t' : TS} (h : PSs X e t) (k : ∀ D st H, t' D st H → t D st H) : PSs X e t' := ⟨fun pins s st H D I q => h.run pins s st H D I (k D st H q)⟩
end
end Mi

set_option Elab.async false
set_option linter.all false
set_option maxRecDepth 100000
set_option maxHeartbeats 1000000
/-! D3: operators by values. -/
namespace Mi
open PySem L2 PyProof.Rows
section
variable (K : PySem.W.Frag) (ca : Str → Addr)
/-- an operation of two values, by its run -/
def rV2 (f : Val → Val → LH → Res Val) : R2 := fun x y H Q => ∃ (ia : List Addr) (h : LH) (v w : Val) (E : XK), Rep K ca ia H h ∧ RV K ia H v x ∧ RV K ia H w y ∧ Want K ca ia H (f v w h) Q E
def rV1 (f : Val → LH → Res Val) : V → Hp → VK → Prop := fun x H Q => ∃ (ia : List Addr) (h : LH) (v : Val) (E : XK), Rep K ca ia H h ∧ RV K ia H v x ∧ Want K ca ia H (f v h) Q E
/-- a call of values -/
def rVL (f : List Val → LH → Res Val) : List V → Hp → VK → Prop := fun xs H Q => ∃ (ia : List Addr) (h : LH) (vs : List Val) (E : XK), Rep K ca ia H h ∧ RVs K ia H vs xs ∧ Want K ca ia H (f vs h) Q E
end

/-! ### a new list, a new tuple -/
section
variable {K : PySem.W.Frag} {ca : Str → Addr} {ia : List Addr} {H : Hp} {h : LH}
def newL (xs : List Val) (h : LH) : Res Val := .ok (.loc h.length) (h ++ [.lst xs])
theorem Want.newL {xs : List Val} {ys : List V} {Q : VK} {E : XK} (w : Want K ca ia H (newL xs h) Q E) (R : Rep K ca ia H h) (r : RVs K ia H xs ys) : ∀ p, H p = none → Q (.ref p) (upd H p (.lst ys)) := fun p n => by
  refine w [p] _ (.ref p) (Grow.push n) (R.push n ⟨ys, upd_same, r.stay (Hold.new n)⟩) (.loc ?_)
  rw [← R.len]
  simp
theorem Want.newT {xs : List Val} {ys : List V} {Q : VK} {E : XK} (w : Want K ca ia H (.ok (.tup xs) h) Q E) (R : Rep K ca ia H h) (r : RVs K ia H xs ys) : ∀ p, H p = none → Q (.ref p) (upd H p (.tup ys)) := fun p n => by
  have k : Hold H (upd H p (.tup ys)) := Hold.new n
  refine w [] _ (.ref p) ⟨fun b o e _ => by rw [upd_ne (ne_of_none e n)]; exact e, fun b o e => ⟨o, by rw [upd_ne (ne_of_none e n)]; exact e⟩, fun _ z => nomatch z⟩ ?_ (.tup upd_same (r.stay k))
  rw [app_nil]
  refine ⟨R.len, R.nd, fun m o a e1 e2 => ?_⟩
  have q := R.ob m o a e1 e2
  have ne : a ≠ p := fun z => by
    rw [z] at q
    cases o with
    | lst _ => obtain ⟨_, q, _⟩ := q; rw [n] at q; cases q
    | dK _ => obtain ⟨_, q, _⟩ := q; rw [n] at q; cases q
    | dT _ => obtain ⟨_, q, _⟩ := q; rw [n] at q; cases q
    | ins _ _ => obtain ⟨_, _, q, _⟩ := q; rw [n] at q; cases q
  have z := q.stay (ka := []) k (upd_ne ne)
  rw [app_nil] at z
  exact z
/-- a list of the small heap -/
theorem Rep.lst (R : Rep K ca ia H h) {n : Nat} {xs : List Val} {x : V} (e : h[n]? = some (.lst xs)) (r : RV K ia H (.loc n) x) : ∃ a ys, x = .ref a ∧ ia[n]? = some a ∧ H a = some (.lst ys) ∧ RVs K ia H xs ys := by
  cases r with
  | loc q =>
    obtain ⟨ys, h1, h2⟩ := R.ob n _ _ e q
    exact ⟨_, ys, rfl, q, h1, h2⟩
end

/-! ### the operators -/
def chk (b : Bool) (r : Res Val) : Res Val := match b with | true => r | false => .bad
def vAdd (v w : Val) (h : LH) : Res Val := match v, w with
  | .int i, .int j => .ok (.int (i + j)) h
  | .str a, .str b => chk (decide (a.length + b.length ≤ sizeLine)) (.ok (.str (a ++ b)) h)
  | .tup a, .tup b => chk (decide (a.length + b.length ≤ sizeLine)) (.ok (.tup (a ++ b)) h)
  | .loc m, .loc n => (match h[m]?, h[n]? with
    | some (.lst a), some (.lst b) => chk (decide (a.length + b.length ≤ sizeLine)) (newL (a ++ b) h)
    | _, _ => .bad)
  | _, _ => .bad
def vSub (v w : Val) (h : LH) : Res Val := match v, w with
  | .int i, .int j => .ok (.int (i - j)) h
  | _, _ => .bad
def vMul (v w : Val) (h : LH) : Res Val := match v, w with
  | .int i, .int j => chk (decide (i.natAbs.log2 + j.natAbs.log2 < 1000000)) (.ok (.int (i * j)) h)
  | .loc m, .int k => (match h[m]? with
    | some (.lst a) => chk (decide (-(2 ^ 63) ≤ k ∧ k < 2 ^ 63 ∧ a.length * k.toNat ≤ sizeLine)) (newL (List.replicate k.toNat a).flatten h)
    | _ => .bad)
  | _, _ => .bad
def vDiv (v w : Val) (h : LH) : Res Val := match v, w with
  | .int i, .int j => chk (decide (j ≠ 0 ∧ j.natAbs.log2 < 9000)) (.ok (.int (i.fdiv j)) h)
  | _, _ => .bad
def vMod (v w : Val) (h : LH) : Res Val := match v, w with
  | .int i, .int j => chk (decide (j ≠ 0)) (.ok (.int (i.fmod j)) h)
  | _, _ => .bad
def vPow (v w : Val) (h : LH) : Res Val := match v, w with
  | .int i, .int j => chk (decide (0 ≤ j ∧ (i.natAbs.log2 + 1 : Int) * j ≤ 2 ^ 27)) (.ok (.int (i ^ j.toNat)) h)
  | _, _ => .bad
def vNeg (v : Val) (h : LH) : Res Val := match v with
  | .int i => .ok (.int (-i)) h
  | _ => .bad
theorem chk_ok {K : PySem.W.Frag} {ca : Str → Addr} {ia : List Addr} {H : Hp} {b : Bool} {r : Res Val} {Q : VK} {E : XK} (w : Want K ca ia H (chk b r) Q E) : b = true ∧ Want K ca ia H r Q E := by
  cases b with
  | true => exact ⟨rfl, w⟩
  | false => exact (show False from w).elim
theorem rvs_rep {K : PySem.W.Frag} {ia : List Addr} {H : Hp} {xs : List Val} {ys : List V} (r : RVs K ia H xs ys) : ∀ n : Nat, RVs K ia H (List.replicate n xs).flatten (List.replicate n ys).flatten
  | 0 => .nil
  | n + 1 => by
    rw [List.replicate_succ, List.replicate_succ, List.flatten_cons, List.flatten_cons]
    exact r.app (rvs_rep r n)
section
variable {X : Cx} {ca : Str → Addr}
theorem ov_add : OpR X (binaryOp .Add) (rV2 X.K ca vAdd) := by
  intro pins s st H x y v u Q I rx ry ⟨ia, h, a, b, E, R, ra, rb, w⟩
  unfold vAdd at w
  split at w
  · cases ra; cases rb
    exact op_add pins s st H _ _ v u Q I rx ry ⟨_, _, rfl, rfl, w.now R (.int _)⟩
  · obtain ⟨c, w⟩ := chk_ok w
    cases ra; cases rb
    exact op_add_str pins s st H _ _ v u Q I rx ry ⟨_, _, rfl, rfl, of_decide_eq_true c, w.now R (.str _)⟩
  · obtain ⟨c, w⟩ := chk_ok w
    have c := of_decide_eq_true c
    cases ra with
    | tup s1 r1 =>
      cases rb with
      | tup s2 r2 =>
        have l1 := r1.len
        have l2 := r2.len
        refine op_catA pins s st H _ _ v u Q I rx ry ⟨_, _, _, _, rfl, rfl, SqT.of s1, SqT.of s2, by omega, fun z => ?_, fun _ z => ?_, fun _ _ => w.newT R (r1.app r2)⟩
        · refine w.now R (.tup s2 ?_)
          subst z
          cases r1
          exact r2
        · refine w.now R (.tup s1 ?_)
          subst z
          cases r2
          rw [List.append_nil]
          exact r1
  · split at w
    · rename_i e1 e2
      obtain ⟨c, w⟩ := chk_ok w
      have c := of_decide_eq_true c
      obtain ⟨p, ys, rfl, _, h1, r1⟩ := R.lst e1 ra
      obtain ⟨q, zs, rfl, _, h2, r2⟩ := R.lst e2 rb
      have l1 := r1.len
      have l2 := r2.len
      exact op_cat pins s st H _ _ v u Q I rx ry ⟨_, _, _, _, rfl, rfl, h1, h2, by omega, w.newL R (r1.app r2)⟩
    · exact (show False from w).elim
  · exact (show False from w).elim
theorem ov_sub : OpR X (binaryOp .Sub) (rV2 X.K ca vSub) := by
  intro pins s st H x y v u Q I rx ry ⟨ia, h, a, b, E, R, ra, rb, w⟩
  unfold vSub at w
  split at w
  · cases ra; cases rb
    exact op_sub pins s st H _ _ v u Q I rx ry ⟨_, _, rfl, rfl, w.now R (.int _)⟩
  · exact (show False from w).elim
theorem ov_mul : OpR X (binaryOp .Mult) (rV2 X.K ca vMul) := by
  intro pins s st H x y v u Q I rx ry ⟨ia, h, a, b, E, R, ra, rb, w⟩
  unfold vMul at w
  split at w
  · obtain ⟨c, w⟩ := chk_ok w
    cases ra; cases rb
    have c := of_decide_eq_true c
    exact op_mulW pins s st H _ _ v u Q I rx ry ⟨_, _, rfl, rfl, c, w.now R (.int _)⟩
  · split at w
    · rename_i e1
      obtain ⟨c, w⟩ := chk_ok w
      obtain ⟨c1, c2, c3⟩ := of_decide_eq_true c
      obtain ⟨p, ys, rfl, _, h1, r1⟩ := R.lst e1 ra
      cases rb
      have l1 := r1.len
      exact op_rep pins s st H _ _ v u Q I rx ry ⟨_, _, _, rfl, rfl, h1, c1, c2, by rw [← l1]; exact c3, w.newL R (rvs_rep r1 _)⟩
    · exact (show False from w).elim
  · exact (show False from w).elim
theorem ov_div : OpR X (binaryOp .FloorDiv) (rV2 X.K ca vDiv) := by
  intro pins s st H x y v u Q I rx ry ⟨ia, h, a, b, E, R, ra, rb, w⟩
  unfold vDiv at w
  split at w
  · obtain ⟨c, w⟩ := chk_ok w
    obtain ⟨c1, c2⟩ := of_decide_eq_true c
    cases ra; cases rb
    obtain ⟨t, rfl⟩ := rx
    obtain ⟨t', rfl⟩ := ry
    exact floordiv_int c1 ⟨.int _, H, I.tok _, ⟨_, rfl⟩, w.now R (.int _)⟩ (.inl (PyProof.noPylong_of_log2 c2))
  · exact (show False from w).elim
theorem ov_mod : OpR X (binaryOp .Mod) (rV2 X.K ca vMod) := by
  intro pins s st H x y v u Q I rx ry ⟨ia, h, a, b, E, R, ra, rb, w⟩
  unfold vMod at w
  split at w
  · obtain ⟨c, w⟩ := chk_ok w
    cases ra; cases rb
    exact op_modN pins s st H _ _ v u Q I rx ry ⟨_, _, rfl, rfl, of_decide_eq_true c, w.now R (.int _)⟩
  · exact (show False from w).elim
theorem bits_le (i : Int) : (Builtin.Int.intBits i : Int) ≤ i.natAbs.log2 + 1 := by
  unfold Builtin.Int.intBits
  split <;> omega
theorem ov_pow : OpR X (binaryOp .Pow) (rV2 X.K ca vPow) := by
  intro pins s st H x y v u Q I rx ry ⟨ia, h, a, b, E, R, ra, rb, w⟩
  unfold vPow at w
  split at w
  · obtain ⟨c, w⟩ := chk_ok w
    obtain ⟨c1, c2⟩ := of_decide_eq_true c
    cases ra; cases rb
    obtain ⟨t, rfl⟩ := rx
    obtain ⟨t', rfl⟩ := ry
    exact pow_int c1 (Int.le_trans (Int.mul_le_mul_of_nonneg_right (bits_le _) c1) c2) ⟨.int _, H, I.tok _, ⟨_, rfl⟩, w.now R (.int _)⟩
  · exact (show False from w).elim
theorem uv_neg : UnR X (unaryOp .USub) (rV1 X.K ca vNeg) := by
  intro pins s st H x v Q I rx ⟨ia, h, a, E, R, ra, w⟩
  unfold vNeg at w
  split at w
  · cases ra
    exact un_neg pins s st H _ v Q I rx ⟨_, rfl, w.now R (.int _)⟩
  · exact (show False from w).elim
end
end Mi

set_option Elab.async false
set_option linter.all false
set_option maxRecDepth 100000
set_option maxHeartbeats 1000000
/-! D4: comparisons, places, lengths, truth, by values. -/
namespace Mi
open PySem L2 PyProof.Rows
/-! ### data -/
def mapO (f : Val → Option PyData) : List Val → Option (List PyData)
  | [] => some []
  | x :: xs => match f x, mapO f xs with
    | some d, some ds => some (d :: ds)
    | _, _ => none
/-- what == sees of a value -/
def toD : Nat → LH → Val → Option PyData
  | 0, _, _ => none
  | n + 1, h, v => match v with
    | .non => some .none
    | .bl b => some (.bool b)
    | .int i => some (.int i)
    | .str x => some (.str x)
    | .tup xs => (mapO (toD n h) xs).map .tuple
    | .ct xs => (mapO (toD n h) xs).map .tuple
    | .cl xs => (mapO (toD n h) xs).map .list
    | .loc m => (match h[m]? with
      | some (.lst xs) => (mapO (toD n h) xs).map .list
      | _ => none)
    | _ => none
section
variable {K : PySem.W.Frag} {ca : Str → Addr} {ia : List Addr} {H : Hp} {h : LH}
theorem mapO_ok {f : Val → Option PyData} (hf : ∀ v x d, f v = some d → RV K ia H v x → Dp K H x d) : ∀ {vs : List Val} {xs : List V} {ds : List PyData}, mapO f vs = some ds → RVs K ia H vs xs → DpAll K H xs ds
  | _, _, _, e, .nil => by cases e; exact .nil
  | v :: vs, x :: xs, ds, e, .cons r t => by
    unfold mapO at e
    split at e
    · rename_i d ds' e1 e2
      cases e
      exact .cons (hf v x d e1 r) (mapO_ok hf e2 t)
    · cases e
theorem toD_ok (R : Rep K ca ia H h) : ∀ {n : Nat} {v : Val} {x : V} {d : PyData}, toD n h v = some d → RV K ia H v x → Dp K H x d
  | 0, _, _, _, e, _ => by cases e
  | n + 1, v, x, d, e, r => by
    have ih : ∀ v x d, toD n h v = some d → RV K ia H v x → Dp K H x d := fun v x d => toD_ok R
    cases r with
    | non => cases e; exact .non
    | bl b => cases e; exact .bl b
    | int i => cases e; exact .int i
    | str z => cases e; exact .str z
    | tup s r =>
      obtain ⟨ds, e1, e2⟩ := Option.map_eq_some_iff.mp (show (mapO (toD n h) _).map PyData.tuple = some d from e)
      subst e2
      exact .tup (SqT.of s) (mapO_ok ih e1 r)
    | ct s r =>
      obtain ⟨ds, e1, e2⟩ := Option.map_eq_some_iff.mp (show (mapO (toD n h) _).map PyData.tuple = some d from e)
      subst e2
      exact .tup s.sq (mapO_ok ih e1 r)
    | cl s r =>
      obtain ⟨ds, e1, e2⟩ := Option.map_eq_some_iff.mp (show (mapO (toD n h) _).map PyData.list = some d from e)
      subst e2
      exact .lst s.sq (mapO_ok ih e1 r)
    | @loc m a q =>
      have e' : (match h[m]? with
        | some (.lst xs) => (mapO (toD n h) xs).map PyData.list
        | _ => none) = some d := e
      split at e'
      · rename_i xs em
        obtain ⟨ds, e1, e2⟩ := Option.map_eq_some_iff.mp e'
        subst e2
        obtain ⟨ys, h1, h2⟩ := R.ob m _ _ em q
        exact .lst (SqL.of h1) (mapO_ok ih e1 h2)
      · cases e'
    | err _ _ _ => cases e
end
/-! ### == and the like -/
/-- both told apart by their kinds and what they are -/
def scl (v w : Val) : Option Bool := match v, w with
  | .non, .non => some true
  | .int i, .int j => some (decide (i = j))
  | .bl a, .bl b => some (decide (a = b))
  | .str a, .str b => some (decide (a = b))
  | .non, .int _ => some false | .int _, .non => some false | .non, .bl _ => some false | .bl _, .non => some false
  | .non, .str _ => some false | .str _, .non => some false | .int _, .str _ => some false | .str _, .int _ => some false
  | .bl _, .str _ => some false | .str _, .bl _ => some false
  | _, _ => none
def eqB (v w : Val) (h : LH) : Option Bool := match scl v w with
  | some b => some b
  | none => match toD 40 h v, toD 40 h w with
    | some d, some e => if SeqAt.shaped d && SeqAt.shaped e then some (PyData.eqv d e) else none
    | _, _ => none
def ofB (o : Option Bool) (h : LH) : Res Val := match o with | some b => .ok (.bl b) h | none => .bad
def vEq (v w : Val) (h : LH) : Res Val := ofB (eqB v w h) h
def vNe (v w : Val) (h : LH) : Res Val := ofB ((eqB v w h).map (!·)) h
theorem scl_ok {K : PySem.W.Frag} {ia : List Addr} {H : Hp} {v w : Val} {x y : V} {b : Bool} (e : scl v w = some b) (r : RV K ia H v x) (q : RV K ia H w y) : scal x y = true ∧ decide (x = y) = b := by
  unfold scl at e
  split at e <;> cases e <;> cases r <;> cases q <;> refine ⟨rfl, ?_⟩ <;> simp
def vLt (v w : Val) (h : LH) : Res Val := match v, w with
  | .int i, .int j => .ok (.bl (decide (i < j))) h
  | .str a, .str b => .ok (.bl (decide (a.cps.toList < b.cps.toList))) h
  | _, _ => .bad
def vLe (v w : Val) (h : LH) : Res Val := match v, w with
  | .int i, .int j => .ok (.bl (decide (i ≤ j))) h
  | _, _ => .bad
def vGt (v w : Val) (h : LH) : Res Val := match v, w with
  | .int i, .int j => .ok (.bl (decide (j < i))) h
  | _, _ => .bad
def vGe (v w : Val) (h : LH) : Res Val := match v, w with
  | .int i, .int j => .ok (.bl (decide (j ≤ i))) h
  | _, _ => .bad
def isNon : Val → Bool
  | .non => true
  | _ => false
/-- is anything known of it -/
def kn : Val → Bool
  | .opq => false
  | _ => true
/-- is None, is True .. -/
def vIs (v w : Val) (h : LH) : Res Val := match w with
  | .non => chk (kn v) (.ok (.bl (isNon v)) h)
  | .bl b => (match v with | .bl a => .ok (.bl (decide (a = b))) h | _ => .bad)
  | _ => .bad
def vIsn (v w : Val) (h : LH) : Res Val := match w with
  | .non => chk (kn v) (.ok (.bl (!isNon v)) h)
  | .bl b => (match v with | .bl a => .ok (.bl (!decide (a = b))) h | _ => .bad)
  | _ => .bad
/-! ### in -/
def keyOf : Val → Option Key
  | .int i => some (.inl i)
  | .str x => some (.inr x)
  | _ => none
def keysOf : List Val → Option (List Key)
  | [] => some []
  | v :: vs => match keyOf v, keysOf vs with
    | some k, some ks => some (k :: ks)
    | _, _ => none
section
variable {kt : Type} [DecidableEq kt]
def look (kvs : List (kt × Val)) (k : kt) : Option Val := (kvs.find? fun kv => decide (kv.1 = k)).map (·.2)
def put (kvs : List (kt × Val)) (k : kt) (v : Val) : List (kt × Val) :=
  if (kvs.any fun kv => decide (kv.1 = k)) = true then kvs.map (fun kv => if kv.1 = k then (kv.1, v) else kv) else kvs ++ [(k, v)]
variable {K : PySem.W.Frag} {ia : List Addr} {H : Hp}
theorem look_ok : ∀ {kvs : List (kt × Val)} {kws : List (kt × V)} (k : kt), RKV K ia H kvs kws → (look kvs k = none ∧ valV kws k = none) ∨ ∃ v w, look kvs k = some v ∧ valV kws k = some w ∧ RV K ia H v w
  | _, _, k, .nil => .inl ⟨rfl, rfl⟩
  | _, _, k, .cons (x := x) (v := v) (w := w) r t => by
    by_cases e : x = k
    · refine .inr ⟨v, w, ?_, ?_, r⟩
      · simp [look, e]
      · simp [valV, e]
    · have e1 : ∀ (l : List (kt × Val)), look ((x, v) :: l) k = look l k := fun l => by simp [look, List.find?, e]
      have e2 : ∀ (l : List (kt × V)), valV ((x, w) :: l) k = valV l k := fun l => by simp [valV, List.find?, e]
      rw [e1, e2]
      exact look_ok k t
theorem any_ok : ∀ {kvs : List (kt × Val)} {kws : List (kt × V)} (k : kt), RKV K ia H kvs kws → (kvs.any fun kv => decide (kv.1 = k)) = kws.any fun kv => decide (kv.1 = k)
  | _, _, _, .nil => rfl
  | _, _, k, .cons _ t => by rw [List.any_cons, List.any_cons, any_ok k t]
theorem map_ok {v : Val} {w : V} (q : RV K ia H v w) : ∀ {kvs : List (kt × Val)} {kws : List (kt × V)} (k : kt), RKV K ia H kvs kws → RKV K ia H (kvs.map (fun kv => if kv.1 = k then (kv.1, v) else kv)) (kws.map (fun kv => if kv.1 = k then (kv.1, w) else kv))
  | _, _, _, .nil => .nil
  | _, _, k, .cons (x := x) r t => by
    rw [List.map_cons, List.map_cons]
    by_cases e : x = k
    · rw [if_pos e, if_pos e]; exact .cons q (map_ok q k t)
    · rw [if_neg e, if_neg e]; exact .cons r (map_ok q k t)
theorem RKV.app : ∀ {kvs kvs' : List (kt × Val)} {kws kws' : List (kt × V)}, RKV K ia H kvs kws → RKV K ia H kvs' kws' → RKV K ia H (kvs ++ kvs') (kws ++ kws')
  | _, _, _, _, .nil, s => s
  | _, _, _, _, .cons r t, s => .cons r (RKV.app t s)
theorem RKV.len : ∀ {kvs : List (kt × Val)} {kws : List (kt × V)}, RKV K ia H kvs kws → kvs.length = kws.length
  | _, _, .nil => rfl
  | _, _, .cons _ t => by simp [RKV.len t]
theorem put_ok {v : Val} {w : V} (q : RV K ia H v w) {kvs : List (kt × Val)} {kws : List (kt × V)} (k : kt) (r : RKV K ia H kvs kws) : RKV K ia H (put kvs k v) (putK kws k w) := by
  unfold put putK
  rw [any_ok k r]
  split
  · exact map_ok q k r
  · exact r.app (.cons q .nil)
end
section
variable {K : PySem.W.Frag} {ca : Str → Addr} {ia : List Addr} {H : Hp} {h : LH}
theorem keyOf_ok {v : Val} {x : V} {k : Key} (e : keyOf v = some k) (r : RV K ia H v x) : x = kV k := by
  cases r <;> cases e <;> rfl
theorem keysOf_ok : ∀ {vs : List Val} {xs : List V} {ks : List Key}, keysOf vs = some ks → RVs K ia H vs xs → xs = ks.map kV
  | _, _, _, e, .nil => by cases e; rfl
  | _, _, _, e, .cons r t => by
    unfold keysOf at e
    split at e
    · rename_i k ks e1 e2
      cases e
      rw [keyOf_ok e1 r, keysOf_ok e2 t]
      rfl
    · cases e
end
/-- what a dict of the small heap holds at a key -/
def dGet (o : Ob) (k : Val) : Option (Option Val) := match o with
  | .dK kvs => (keyOf k).map (look kvs)
  | .dT kvs => (match k with
    | .tup ks => (keysOf ks).map (look kvs)
    | _ => none)
  | _ => none
def memD (d : PyData) (o : Option PyData) : Option Bool := match o with
  | some (.list ds) => if SeqAt.shaped d && SeqAt.shaped (.list ds) then some (ds.any fun z => PyData.eqv z d) else none
  | some (.tuple ds) => if SeqAt.shaped d && SeqAt.shaped (.tuple ds) then some (ds.any fun z => PyData.eqv z d) else none
  | _ => none
def inS (v w : Val) (h : LH) : Option Bool := match toD 40 h v with
  | some d => memD d (toD 40 h w)
  | none => none
def inB (v w : Val) (h : LH) : Option Bool := match w with
  | .str b => (match v with
    | .str a => some (!(Builtin.Str.occurrences b a 0 b.length 1).isEmpty)
    | _ => none)
  | .loc m => (match h[m]? with
    | some (.lst _) => inS v w h
    | some o => (dGet o v).map (·.isSome)
    | none => none)
  | _ => inS v w h
def vIn (v w : Val) (h : LH) : Res Val := ofB (inB v w h) h
def vNin (v w : Val) (h : LH) : Res Val := ofB ((inB v w h).map (!·)) h
section
variable {K : PySem.W.Frag} {ca : Str → Addr} {ia : List Addr} {H : Hp} {h : LH}
theorem dGet_ok (R : Rep K ca ia H h) {m : Nat} {o : Ob} {v : Val} {x y : V} {g : Option Val} (e : h[m]? = some o) (d : dGet o v = some g) (rm : RV K ia H (.loc m) y) (r : RV K ia H v x) :
    ∃ a g', y = .ref a ∧ DGet H a x g' ∧ ((g = none ∧ g' = none) ∨ ∃ u w, g = some u ∧ g' = some w ∧ RV K ia H u w) := by
  cases rm with
  | @loc _ a q =>
    have ro := R.ob m o a e q
    cases o with
    | dK kvs =>
      obtain ⟨kws, h1, r1⟩ := ro
      obtain ⟨k, e1, e2⟩ := Option.map_eq_some_iff.mp (show (keyOf v).map (look kvs) = some g from d)
      have ex := keyOf_ok e1 r
      subst ex e2
      exact ⟨a, valV kws k, rfl, DGet.k h1, look_ok k r1⟩
    | dT kvs =>
      obtain ⟨kws, h1, r1⟩ := ro
      cases r with
      | @tup ks ys b hb rk =>
        obtain ⟨k, e1, e2⟩ := Option.map_eq_some_iff.mp (show (keysOf ks).map (look kvs) = some g from d)
        have ex := keysOf_ok e1 rk
        subst ex e2
        exact ⟨a, valV kws k, rfl, DGet.t h1 hb, look_ok k r1⟩
      | _ => cases d
    | _ => cases d
end
section
variable {X : Cx} {ca : Str → Addr}
theorem ofB_ok {K : PySem.W.Frag} {ia : List Addr} {H : Hp} {h : LH} {o : Option Bool} {Q : VK} {E : XK} (w : Want K ca ia H (ofB o h) Q E) (R : Rep K ca ia H h) : ∃ b, o = some b ∧ Q (.bl b) H := by
  cases o with
  | none => exact (show False from w).elim
  | some b => exact ⟨b, rfl, w.now R (.bl b)⟩
theorem ov_eq (hu : X.A.units + 64 < cLine) : OpR X (compareOp .Eq) (rV2 X.K ca vEq) := by
  intro pins s st H x y v u Q I rx ry ⟨ia, h, a, b, E, R, ra, rb, w⟩
  obtain ⟨c, e, q⟩ := ofB_ok w R
  unfold eqB at e
  split at e
  · rename_i c' e1
    cases e
    obtain ⟨h1, h2⟩ := scl_ok e1 ra rb
    exact op_eq pins s st H x y v u Q I rx ry ⟨h1, by rw [h2]; exact q⟩
  · split at e
    · rename_i d d' e1 e2
      split at e
      · rename_i hs
        cases e
        obtain ⟨s1, s2⟩ := Bool.and_eq_true_iff.mp hs
        exact op_eqD hu pins s st H x y v u Q I rx ry ⟨d, d', toD_ok R e1 ra, toD_ok R e2 rb, s1, s2, q⟩
      · cases e
    · cases e
theorem ov_ne (hu : X.A.units + 64 < cLine) : OpR X (compareOp .NotEq) (rV2 X.K ca vNe) := by
  intro pins s st H x y v u Q I rx ry ⟨ia, h, a, b, E, R, ra, rb, w⟩
  obtain ⟨c, e0, q⟩ := ofB_ok w R
  obtain ⟨c1, e, ec⟩ := Option.map_eq_some_iff.mp e0
  clear e0
  subst ec
  clear w
  unfold eqB at e
  split at e
  · rename_i c' e1
    cases e
    obtain ⟨h1, h2⟩ := scl_ok e1 ra rb
    exact op_ne pins s st H x y v u Q I rx ry ⟨h1, by rw [h2]; exact q⟩
  · split at e
    · rename_i d d' e1 e2
      split at e
      · rename_i hs
        have e2 := Option.some.inj e
        subst e2
        obtain ⟨s1, s2⟩ := Bool.and_eq_true_iff.mp hs
        exact op_neD hu pins s st H x y v u Q I rx ry ⟨d, d', toD_ok R e1 ra, toD_ok R e2 rb, s1, s2, q⟩
      · cases e
    · cases e
theorem ov_lt : OpR X (compareOp .Lt) (rV2 X.K ca vLt) := by
  intro pins s st H x y v u Q I rx ry ⟨ia, h, a, b, E, R, ra, rb, w⟩
  unfold vLt at w
  split at w
  · cases ra; cases rb
    exact op_lt pins s st H _ _ v u Q I rx ry ⟨_, _, rfl, rfl, w.now R (.bl _)⟩
  · cases ra; cases rb
    exact op_lt_str pins s st H _ _ v u Q I rx ry ⟨_, _, rfl, rfl, w.now R (.bl _)⟩
  · exact (show False from w).elim
theorem ov_le : OpR X (compareOp .LtE) (rV2 X.K ca vLe) := by
  intro pins s st H x y v u Q I rx ry ⟨ia, h, a, b, E, R, ra, rb, w⟩
  unfold vLe at w
  split at w
  · cases ra; cases rb
    exact op_le pins s st H _ _ v u Q I rx ry ⟨_, _, rfl, rfl, w.now R (.bl _)⟩
  · exact (show False from w).elim
theorem ov_gt : OpR X (compareOp .Gt) (rV2 X.K ca vGt) := by
  intro pins s st H x y v u Q I rx ry ⟨ia, h, a, b, E, R, ra, rb, w⟩
  unfold vGt at w
  split at w
  · cases ra; cases rb
    exact op_gt pins s st H _ _ v u Q I rx ry ⟨_, _, rfl, rfl, w.now R (.bl _)⟩
  · exact (show False from w).elim
theorem ov_ge : OpR X (compareOp .GtE) (rV2 X.K ca vGe) := by
  intro pins s st H x y v u Q I rx ry ⟨ia, h, a, b, E, R, ra, rb, w⟩
  unfold vGe at w
  split at w
  · cases ra; cases rb
    exact op_ge pins s st H _ _ v u Q I rx ry ⟨_, _, rfl, rfl, w.now R (.bl _)⟩
  · exact (show False from w).elim
end
end Mi

set_option Elab.async false
set_option linter.all false
set_option maxRecDepth 100000
set_option maxHeartbeats 1000000
/-! D5: is, in, places, slices, lengths, truth, by values. -/
namespace Mi
open PySem L2 PyProof.Rows
section
variable {X : Cx} {ca : Str → Addr}
theorem rv_non {K : PySem.W.Frag} {ia : List Addr} {H : Hp} {v : Val} {x : V} (r : RV K ia H v x) : decide (x = .non) = isNon v := by
  cases r <;> simp [isNon]
theorem ov_is : OpR X (compareOp .Is) (rV2 X.K ca vIs) := by
  intro pins s st H x y v u Q I rx ry ⟨ia, h, a, b, E, R, ra, rb, w⟩
  unfold vIs at w
  split at w
  · cases rb
    refine op_isN pins s st H _ _ v u Q I rx ry ⟨rfl, ?_⟩
    rw [rv_non ra]
    exact (chk_ok w).2.now R (.bl _)
  · split at w
    · cases ra; cases rb
      exact op_isBl pins s st H _ _ v u Q I rx ry ⟨_, _, rfl, rfl, w.now R (.bl _)⟩
    · exact (show False from w).elim
  · exact (show False from w).elim
theorem ov_isn : OpR X (compareOp .IsNot) (rV2 X.K ca vIsn) := by
  intro pins s st H x y v u Q I rx ry ⟨ia, h, a, b, E, R, ra, rb, w⟩
  unfold vIsn at w
  split at w
  · cases rb
    refine op_notN pins s st H _ _ v u Q I rx ry ⟨rfl, ?_⟩
    rw [rv_non ra]
    exact (chk_ok w).2.now R (.bl _)
  · split at w
    · cases ra; cases rb
      exact op_notBl pins s st H _ _ v u Q I rx ry ⟨_, _, rfl, rfl, w.now R (.bl _)⟩
    · exact (show False from w).elim
  · exact (show False from w).elim
/-- in, by what == sees -/
theorem inS_ok (hu : X.A.units + 65 < cLine) {pins : List (Addr × Obj)} {s : Shared} {st : L2.St} {H : Hp} {x y : V} {v u : Value} {Q : VK} {ia : List Addr} {h : LH} {a b : Val} {c : Bool}
    (I : Inv X pins st H s) (rx : RelV x v) (ry : RelV y u) (R : Rep X.K ca ia H h) (ra : RV X.K ia H a x) (rb : RV X.K ia H b y) (e : inS a b h = some c) :
    (Q (.bl c) H → wpAny (model X.prog X.w) X.A (compareOp .In v u) (EP X pins st Q) X.xe s) ∧ (Q (.bl (!c)) H → wpAny (model X.prog X.w) X.A (compareOp .NotIn v u) (EP X pins st Q) X.xe s) := by
  unfold inS at e
  split at e
  · rename_i d e1
    unfold memD at e
    split at e
    · rename_i ds e2
      split at e
      · rename_i hs
        have e3 := Option.some.inj e
        subst e3
        obtain ⟨s1, s2⟩ := Bool.and_eq_true_iff.mp hs
        exact ⟨fun q => op_inD hu pins s st H x y v u Q I rx ry ⟨d, ds, toD_ok R e1 ra, toD_ok R e2 rb, s1, s2, q⟩, fun q => op_notInD hu pins s st H x y v u Q I rx ry ⟨d, ds, toD_ok R e1 ra, toD_ok R e2 rb, s1, s2, q⟩⟩
      · cases e
    · rename_i ds e2
      split at e
      · rename_i hs
        have e3 := Option.some.inj e
        subst e3
        obtain ⟨s1, s2⟩ := Bool.and_eq_true_iff.mp hs
        obtain ⟨as, r1⟩ := Dp.reads I d x v (toD_ok R e1 ra) rx
        obtain ⟨bs, r2⟩ := Dp.reads I (.tuple ds) y u (toD_ok R e2 rb) ry
        exact ⟨fun q => SeqAt.in_tuple_reads r2 r1 (SeqAt.canLay_of_shaped s2) (SeqAt.canLay_of_shaped s1) (room_in_shaped s1 hu) ⟨.bl _, H, I, rfl, q⟩,
          fun q => SeqAt.notIn_tuple_reads r2 r1 (SeqAt.canLay_of_shaped s2) (SeqAt.canLay_of_shaped s1) (room_in_shaped s1 hu) ⟨.bl _, H, I, rfl, q⟩⟩
      · cases e
    · cases e
  · cases e
theorem in_ok (hu : X.A.units + 65 < cLine) {pins : List (Addr × Obj)} {s : Shared} {st : L2.St} {H : Hp} {x y : V} {v u : Value} {Q : VK} {ia : List Addr} {h : LH} {a b : Val} {c : Bool}
    (I : Inv X pins st H s) (rx : RelV x v) (ry : RelV y u) (R : Rep X.K ca ia H h) (ra : RV X.K ia H a x) (rb : RV X.K ia H b y) (e : inB a b h = some c) :
    (Q (.bl c) H → wpAny (model X.prog X.w) X.A (compareOp .In v u) (EP X pins st Q) X.xe s) ∧ (Q (.bl (!c)) H → wpAny (model X.prog X.w) X.A (compareOp .NotIn v u) (EP X pins st Q) X.xe s) := by
  unfold inB at e
  split at e
  · split at e
    · have e3 := Option.some.inj e
      subst e3
      cases ra; cases rb
      exact ⟨fun q => op_in_str pins s st H _ _ v u Q I rx ry ⟨_, _, rfl, rfl, q⟩, fun q => op_notin_str pins s st H _ _ v u Q I rx ry ⟨_, _, rfl, rfl, q⟩⟩
    · cases e
  · split at e
    · exact inS_ok hu I rx ry R ra rb e
    · rename_i o e1 hno
      obtain ⟨g, e2, e3⟩ := Option.map_eq_some_iff.mp e
      subst e3
      obtain ⟨p, g', ey, dg, hg⟩ := dGet_ok R hno e2 rb ra
      subst ey
      cases ry
      have eg : g'.isSome = g.isSome := by
        rcases hg with ⟨h1, h2⟩ | ⟨_, _, h1, h2, _⟩ <;> rw [h1, h2] <;> rfl
      exact ⟨fun q => d_in (by omega) I dg rx fun s' I' => ⟨.bl g'.isSome, H, I', rfl, by rw [eg]; exact q⟩, fun q => d_notIn (by omega) I dg rx fun s' I' => ⟨.bl (!g'.isSome), H, I', rfl, by rw [eg]; exact q⟩⟩
    · cases e
  · exact inS_ok hu I rx ry R ra rb e
theorem ov_in (hu : X.A.units + 65 < cLine) : OpR X (compareOp .In) (rV2 X.K ca vIn) := by
  intro pins s st H x y v u Q I rx ry ⟨ia, h, a, b, E, R, ra, rb, w⟩
  obtain ⟨c, e, q⟩ := ofB_ok w R
  exact (in_ok hu I rx ry R ra rb e).1 q
theorem ov_nin (hu : X.A.units + 65 < cLine) : OpR X (compareOp .NotIn) (rV2 X.K ca vNin) := by
  intro pins s st H x y v u Q I rx ry ⟨ia, h, a, b, E, R, ra, rb, w⟩
  obtain ⟨c, e0, q⟩ := ofB_ok w R
  obtain ⟨c1, e, ec⟩ := Option.map_eq_some_iff.mp e0
  clear e0 w
  subst ec
  exact (in_ok hu I rx ry R ra rb e).2 q
end

/-! ### places -/
def ofO (o : Option Val) (h : LH) : Res Val := match o with | some v => .ok v h | none => .bad
/-- the list, the tuple that a value is -/
def seqL (v : Val) (h : LH) : Option (List Val) := match v with
  | .cl xs => some xs
  | .loc m => (match h[m]? with
    | some (.lst xs) => some xs
    | _ => none)
  | _ => none
def seqT (v : Val) : Option (List Val) := match v with
  | .tup xs => some xs
  | .ct xs => some xs
  | _ => none
section
variable {K : PySem.W.Frag} {ca : Str → Addr} {ia : List Addr} {H : Hp} {h : LH}
theorem seqL_ok (R : Rep K ca ia H h) {v : Val} {x : V} {xs : List Val} (e : seqL v h = some xs) (r : RV K ia H v x) : ∃ a ys, x = .ref a ∧ SqL K H a ys ∧ RVs K ia H xs ys := by
  cases r with
  | cl s q => cases e; exact ⟨_, _, rfl, s.sq, q⟩
  | @loc m a q =>
    have e' : (match h[m]? with
      | some (.lst xs) => some xs
      | _ => none) = some xs := e
    split at e'
    · rename_i em
      cases e'
      obtain ⟨ys, h1, h2⟩ := R.ob m _ _ em q
      exact ⟨_, ys, rfl, SqL.of h1, h2⟩
    · cases e'
  | _ => cases e
theorem seqT_ok {v : Val} {x : V} {xs : List Val} (e : seqT v = some xs) (r : RV K ia H v x) : ∃ a ys, x = .ref a ∧ SqT K H a ys ∧ RVs K ia H xs ys := by
  cases r with
  | tup s q => cases e; exact ⟨_, _, rfl, SqT.of s, q⟩
  | ct s q => cases e; exact ⟨_, _, rfl, s.sq, q⟩
  | _ => cases e
theorem atI_ok {xs : List Val} {ys : List V} {i : Int} {v : Val} (r : RVs K ia H xs ys) (e : atI xs i = some v) : ∃ w, atI ys i = some w ∧ RV K ia H v w := by
  unfold atI at e ⊢
  rw [← r.len]
  cases q : ixN xs.length i with
  | none => rw [q] at e; cases e
  | some j =>
    rw [q] at e
    exact r.get e
theorem ofO_ok {o : Option Val} {Q : VK} {E : XK} (w : Want K ca ia H (ofO o h) Q E) : ∃ v, o = some v ∧ Want K ca ia H (.ok v h) Q E := by
  cases o with
  | none => exact (show False from w).elim
  | some v => exact ⟨v, rfl, w⟩
end
def vIx (v w : Val) (h : LH) : Res Val := match v with
  | .str z => (match w with
    | .int i => chk (decide (z.length ≤ sizeLine)) (ofO ((atI z.cps.toList i).map fun c => .str ⟨#[c]⟩) h)
    | _ => .bad)
  | .loc m => (match h[m]? with
    | some (.lst xs) => (match w with
      | .int i => ofO (atI xs i) h
      | _ => .bad)
    | some o => (match dGet o w with
      | some (some u) => .ok u h
      | _ => .bad)
    | none => .bad)
  | .cl xs => (match w with
    | .int i => ofO (atI xs i) h
    | _ => .bad)
  | .tup xs => (match w with
    | .int i => ofO (atI xs i) h
    | _ => .bad)
  | .ct xs => (match w with
    | .int i => ofO (atI xs i) h
    | _ => .bad)
  | _ => .bad
section
variable {X : Cx} {ca : Str → Addr}
theorem iv_ix (hu : X.A.units + 1 < cLine) : IxR X (rV2 X.K ca vIx) := by
  intro value slice pins s st H x y v u Q I rx ry ⟨ia, h, a, b, E, R, ra, rb, w⟩ hs
  unfold vIx at w
  split at w
  · split at w
    · obtain ⟨c, w⟩ := chk_ok w
      obtain ⟨v', e, w⟩ := ofO_ok w
      obtain ⟨cp, e1, e2⟩ := Option.map_eq_some_iff.mp e
      subst e2
      cases ra; cases rb
      exact ix_str value slice pins s st H _ _ v u Q I rx ry ⟨_, _, cp, rfl, rfl, of_decide_eq_true c, e1, w.now R (.str _)⟩ hs
    · exact (show False from w).elim
  · split at w
    · rename_i m xs em
      split at w
      · obtain ⟨v', e, w⟩ := ofO_ok w
        obtain ⟨p, ys, rfl, _, h1, r1⟩ := R.lst em ra
        obtain ⟨z, e2, rz⟩ := atI_ok r1 e
        cases rb
        exact ix_list value slice pins s st H _ _ v u Q I rx ry ⟨_, _, _, z, rfl, rfl, SqL.of h1, e2, w.now R rz⟩ hs
      · exact (show False from w).elim
    · rename_i o hno em
      split at w
      · rename_i z ez
        obtain ⟨p, g', ey, dg, hg⟩ := dGet_ok R em ez ra rb
        subst ey
        cases rx
        rcases hg with ⟨h1, _⟩ | ⟨u', w', h1, h2, r2⟩
        · cases h1
        · cases h1
          rw [h2] at dg
          exact tail_any (dict_typeIs I dg) PySem.F.slot_dict_getitem.lookup (d_getItem hu I dg ry fun z' s' I' rz' => ⟨w', H, I', rz', w.now R r2⟩) hs
      · exact (show False from w).elim
    · exact (show False from w).elim
  · rename_i xs
    split at w
    · obtain ⟨v', e, w⟩ := ofO_ok w
      obtain ⟨p, ys, rfl, h1, r1⟩ := seqL_ok R (v := .cl xs) rfl ra
      obtain ⟨z, e2, rz⟩ := atI_ok r1 e
      cases rb
      exact ix_list value slice pins s st H _ _ v u Q I rx ry ⟨_, _, _, z, rfl, rfl, h1, e2, w.now R rz⟩ hs
    · exact (show False from w).elim
  · rename_i xs
    split at w
    · obtain ⟨v', e, w⟩ := ofO_ok w
      obtain ⟨p, ys, rfl, h1, r1⟩ := seqT_ok (v := .tup xs) rfl ra
      obtain ⟨z, e2, rz⟩ := atI_ok r1 e
      cases rb
      exact ix_tup value slice pins s st H _ _ v u Q I rx ry ⟨_, _, _, z, rfl, rfl, h1, e2, w.now R rz⟩ hs
    · exact (show False from w).elim
  · rename_i xs
    split at w
    · obtain ⟨v', e, w⟩ := ofO_ok w
      obtain ⟨p, ys, rfl, h1, r1⟩ := seqT_ok (v := .ct xs) rfl ra
      obtain ⟨z, e2, rz⟩ := atI_ok r1 e
      cases rb
      exact ix_tup value slice pins s st H _ _ v u Q I rx ry ⟨_, _, _, z, rfl, rfl, h1, e2, w.now R rz⟩ hs
    · exact (show False from w).elim
  · exact (show False from w).elim
end
/-! ### slices -/
def cut {t : Type} (xs : List t) (lo hi : Option Int) : List t := (xs.drop (HT.sIx xs.length 0 lo)).take (HT.sIx xs.length xs.length hi - HT.sIx xs.length 0 lo)
def vSl (v : Val) (lo hi : Option Int) (h : LH) : Res Val := match v with
  | .str z => chk (decide (z.length ≤ sizeLine)) (.ok (.str (cutS z lo hi)) h)
  | .tup xs => .ok (.tup (cut xs lo hi)) h
  | .cl xs => newL (cut xs lo hi) h
  | .loc m => (match h[m]? with
    | some (.lst xs) => newL (cut xs lo hi) h
    | _ => .bad)
  | _ => .bad
def rVS (K : PySem.W.Frag) (ca : Str → Addr) : V → Option Int → Option Int → Hp → VK → Prop := fun x lo hi H Q => ∃ (ia : List Addr) (h : LH) (v : Val) (E : XK), Rep K ca ia H h ∧ RV K ia H v x ∧ Want K ca ia H (vSl v lo hi h) Q E
theorem cut_ok {K : PySem.W.Frag} {ia : List Addr} {H : Hp} {xs : List Val} {ys : List V} (lo hi : Option Int) (r : RVs K ia H xs ys) : RVs K ia H (cut xs lo hi) (cutV ys lo hi) := by
  unfold cut cutV
  rw [r.len]
  exact (r.drop _).take _
section
variable {X : Cx} {ca : Str → Addr}
theorem sv_sl : SlR X (rVS X.K ca) := by
  intro pins s st H x v vl vu lo hi sl Q I rx hs pl pu ⟨ia, h, a, E, R, ra, w⟩
  unfold vSl at w
  split at w
  · obtain ⟨c, w⟩ := chk_ok w
    cases ra
    exact sl_str pins s st H _ v vl vu lo hi sl Q I rx hs pl pu ⟨_, rfl, of_decide_eq_true c, w.now R (.str _)⟩
  · rename_i xs
    cases ra with
    | @tup _ ys p s1 r1 =>
      refine sl_tupA pins s st H _ v vl vu lo hi sl Q I rx hs pl pu ⟨p, ys, rfl, SqT.of s1, fun ⟨z1, z2⟩ => ?_, fun _ => w.newT R (cut_ok lo hi r1)⟩
      refine w.now R (.tup s1 ?_)
      have e : cut xs lo hi = xs := by
        unfold cut
        rw [r1.len, z1, z2]
        simp [← r1.len]
      rw [e]
      exact r1
  · rename_i xs
    obtain ⟨p, ys, rfl, h1, r1⟩ := seqL_ok R (v := .cl xs) rfl ra
    exact sl_list pins s st H _ v vl vu lo hi sl Q I rx hs pl pu ⟨p, ys, rfl, h1, w.newL R (cut_ok lo hi r1)⟩
  · split at w
    · rename_i xs em
      obtain ⟨p, ys, rfl, _, h1, r1⟩ := R.lst em ra
      exact sl_list pins s st H _ v vl vu lo hi sl Q I rx hs pl pu ⟨p, ys, rfl, SqL.of h1, w.newL R (cut_ok lo hi r1)⟩
    · exact (show False from w).elim
  · exact (show False from w).elim
end
/-! ### lengths, truth -/
def lenO (v : Val) (h : LH) : Option Nat := match v with
  | .str z => if z.length ≤ sizeLine then some z.length else none
  | .tup xs => some xs.length
  | .ct xs => some xs.length
  | .cl xs => some xs.length
  | .loc m => (match h[m]? with
    | some (.lst xs) => some xs.length
    | _ => none)
  | _ => none
theorem lenO_ok {K : PySem.W.Frag} {ca : Str → Addr} {ia : List Addr} {H : Hp} {h : LH} (R : Rep K ca ia H h) {v : Val} {x : V} {n : Nat} (e : lenO v h = some n) (r : RV K ia H v x) : LenV K x H n := by
  cases r with
  | str z =>
    have e' : (if z.length ≤ sizeLine then some z.length else none) = some n := e
    split at e'
    · rename_i hz
      cases e'
      exact ⟨hz, rfl⟩
    · cases e'
  | tup s q => cases e; exact .inr ⟨_, SqT.of s, q.len⟩
  | ct s q => cases e; exact .inr ⟨_, s.sq, q.len⟩
  | cl s q => cases e; exact .inl ⟨_, s.sq, q.len⟩
  | @loc m a q =>
    have e' : (match h[m]? with
      | some (.lst xs) => some xs.length
      | _ => none) = some n := e
    split at e'
    · rename_i em
      cases e'
      obtain ⟨ys, h1, h2⟩ := R.ob m _ _ em q
      exact .inl ⟨_, SqL.of h1, h2.len⟩
    · cases e'
  | _ => cases e
def truO (v : Val) (h : LH) : Option Bool := match v with
  | .non => some false
  | .bl b => some b
  | .int i => some (i != 0)
  | .str z => if z.length ≤ sizeLine then some ((z.length : Int) != 0) else none
  | .tup xs => some (!xs.isEmpty)
  | .ct xs => some (!xs.isEmpty)
  | .cl xs => some (!xs.isEmpty)
  | .loc m => (match h[m]? with
    | some (.lst xs) => some (!xs.isEmpty)
    | some (.dK xs) => some (!xs.isEmpty)
    | _ => none)
  | _ => none
theorem emp_rvs {K : PySem.W.Frag} {ia : List Addr} {H : Hp} {xs : List Val} {ys : List V} (r : RVs K ia H xs ys) : (!xs.isEmpty) = !ys.isEmpty := by cases r <;> rfl
theorem truO_ok {K : PySem.W.Frag} {ca : Str → Addr} {ia : List Addr} {H : Hp} {h : LH} (R : Rep K ca ia H h) {v : Val} {x : V} {b : Bool} (e : truO v h = some b) (r : RV K ia H v x) : TruV K x H b := by
  cases r with
  | non => cases e; rfl
  | bl c => cases e; rfl
  | int i => cases e; rfl
  | str z =>
    have e' : (if z.length ≤ sizeLine then some ((z.length : Int) != 0) else none) = some b := e
    split at e'
    · rename_i hz
      cases e'
      exact ⟨hz, rfl⟩
    · cases e'
  | tup s q => cases e; exact .inr (.inl ⟨_, SqT.of s, emp_rvs q⟩)
  | ct s q => cases e; exact .inr (.inl ⟨_, s.sq, emp_rvs q⟩)
  | cl s q => cases e; exact .inl ⟨_, s.sq, emp_rvs q⟩
  | @loc m a q =>
    have e' : (match h[m]? with
      | some (.lst xs) => some (!xs.isEmpty)
      | some (.dK xs) => some (!xs.isEmpty)
      | _ => none) = some b := e
    split at e'
    · rename_i em
      cases e'
      obtain ⟨ys, h1, h2⟩ := R.ob m _ _ em q
      exact .inl ⟨_, SqL.of h1, emp_rvs h2⟩
    · rename_i em
      cases e'
      obtain ⟨ys, h1, h2⟩ := R.ob m _ _ em q
      exact .inr (.inr ⟨_, h1, by cases h2 <;> rfl⟩)
    · cases e'
  | err _ _ _ => cases e
end Mi

set_option Elab.async false
set_option linter.all false
set_option maxRecDepth 100000
set_option maxHeartbeats 1000000
/-! P1: what repr, isinstance, .value and dict displays give. -/
namespace Mi
open PySem L2
def keyD : Key → PyData
  | .inl i => .int i
  | .inr x => .str x
def mapKv (f : Val → Option PyData) : List (Key × Val) → Option (List (PyData × PyData))
  | [] => some []
  | (k, x) :: xs => match f x, mapKv f xs with
    | some d, some ds => some ((keyD k, d) :: ds)
    | _, _ => none
/-- what repr shows of a value -/
def toR : Nat → LH → Val → Option PyData
  | 0, _, _ => none
  | n + 1, h, v => match v with
    | .non => some .none
    | .bl b => some (.bool b)
    | .int i => some (.int i)
    | .str x => some (.str x)
    | .tup xs => (mapO (toR n h) xs).map .tuple
    | .loc m => (match h[m]? with
      | some (.lst xs) => (mapO (toR n h) xs).map .list
      | some (.dK kvs) => (mapKv (toR n h) kvs).map .dict
      | _ => none)
    | _ => none
def vRep (v : Val) (h : LH) : Res Val := match toR 40 h v with
  | some d => chk (PyData.showable d && decide (d.shown.length ≤ sizeLine) && decide (d.depth ≤ 100)) (.ok (.str d.shown) h)
  | none => .bad
def vFld (errs : List Str) (v : Val) (h : LH) : Res Val := match v with
  | .err c w => chk (errs.contains c) (.ok w h)
  | _ => .bad
inductive ClR where
  | ty (n : String)
  | own (c : Str)
  deriving DecidableEq
/-- the kind of a value -/
def tyO (v : Val) (h : LH) : Option ClR := match v with
  | .non => some (.ty "NoneType")
  | .bl _ => some (.ty "bool")
  | .int _ => some (.ty "int")
  | .str _ => some (.ty "str")
  | .tup _ => some (.ty "tuple")
  | .ct _ => some (.ty "tuple")
  | .loc m => (match h[m]? with
    | some (.lst _) => some (.ty "list")
    | some (.dK _) => some (.ty "dict")
    | some (.dT _) => some (.ty "dict")
    | _ => none)
  | .err c _ => some (.own c)
  | _ => none
def isiL (T : List (ClR × List (ClR × Bool))) (t c : ClR) : Option Bool := match T.find? fun p => decide (p.1 = t) with
  | some p => (p.2.find? fun q => decide (q.1 = c)).map (·.2)
  | none => none
def vIsi (T : List (ClR × List (ClR × Bool))) (errs : List Str) (c : ClR) (v : Val) (h : LH) : Res Val := match tyO v h with
  | some t => (match isiL T t c, (match t with | .own x => errs.contains x | _ => true) with
    | some b, true => .ok (.bl b) h
    | _, _ => .bad)
  | none => .bad
def putAll (kvs : List (Key × Val)) (ks : List Str) (vs : List Val) : List (Key × Val) := match ks, vs with
  | k :: ks, v :: vs => putAll (put kvs (.inr k) v) ks vs
  | _, _ => kvs
/-- {'k': e, ..} -/
def vDsp (ks : List Str) (ml : M (List Val)) : M Val := fun sl h => (ml sl (h ++ [.dK []])).bind fun vs h1 => match h1[h.length]? with
  | some (.dK []) => chk (decide (ks.length = vs.length) && decide (ks.length ≤ 15)) (.ok (.loc h.length) (h1.set h.length (.dK (putAll [] ks vs))))
  | _ => .bad
mutual
/-- nothing that changes -/
def noLoc : Val → Bool
  | .loc _ => false
  | .opq => false
  | .tup xs => noLocs xs
  | .ct xs => noLocs xs
  | .cl xs => noLocs xs
  | .err _ v => noLoc v
  | _ => true
def noLocs : List Val → Bool
  | [] => true
  | v :: vs => noLoc v && noLocs vs
end
end Mi

set_option Elab.async false
set_option linter.all false
set_option maxRecDepth 100000
set_option maxHeartbeats 1000000
/-! D6: the evaluator's own text, and its run. -/
namespace Mi
open PySem L2
/-- built-in functions and classes that are called -/
inductive Bi where
  | len | abs | int | min2 | max2 | all | any | list | tuple
  deriving DecidableEq
/-- methods of built-in classes -/
inductive Mt where
  | append | extend | popAt
  deriving DecidableEq
inductive ITg where
  | nm (i : Nat)
  | tp (ts : List ITg)
inductive IE where
  | cst (v : Val)
  | var (i : Nat)
  | bin (op : Operator) (a b : IE)
  | neg (a : IE)
  | cmp (op : CmpOp) (a b : IE)
  | chn (op op' : CmpOp) (a b c : IE)
  | nt (a : IE)
  | an (es : List IE)
  | orr (es : List IE)
  | ife (c a b : IE)
  | tp (es : List IE)
  | ls (es : List IE)
  | cal (f : Nat) (es : List IE)
  | blt (b : Bi) (es : List IE)
  | lrg (a : IE)
  | mth (m : Mt) (o : IE) (es : List IE)
  | ix (a b : IE)
  | sl (a : IE) (lo hi : Option IE)
  | mkE (c : Str) (e : IE)
  | fld (e : IE)
  | isi (e : IE) (c : ClR)
  | rpr (e : IE)
  | dsp (ks : List Str) (es : List IE)
  | lc (tg : ITg) (k : Nat) (es : List IE) (ifs : List IE) (elt : IE) (own : List Nat)
inductive IS where
  | ex (e : IE)
  | asg (tg : ITg) (e : IE)
  | sub (o i e : IE)
  | ret (e : Option IE)
  | iff (c : IE) (a b : List IS)
  | for_ (tg : ITg) (k : Nat) (es : List IE) (body : List IS)
  | whl (c : IE) (body : List IS)
  | brk | cnt | pas | nev
/-- what a loop walks (k: 0 a sequence, 1 range(n), 2 range(a, b), 3 enumerate, 4 zip of two) -/
inductive Src where
  | seq (v : Val)
  | rng (lo : Int) (n : Nat)
  | enm (v : Val)
  | zp (v w : Val)
/-- what a block gives -/
inductive RsS where
  | nx (sl : LS) (h : LH)
  | rt (v : Val) (h : LH)
  | bk (sl : LS) (h : LH)
  | ct (sl : LS) (h : LH)
  | exc (c : Str) (v : Val) (sl : LS) (h : LH)
  | bad
structure DefI where
  ps : Nat
  n : Nat
  body : List IS
structure Prg where
  defs : List DefI
  isiT : List (ClR × List (ClR × Bool)) := []
  errs : List Str := []
/-- the evaluator, one level -/
structure EV where
  e : Nat → IE → LS → LH → Res Val
  t : Nat → IE → LS → LH → Res Bool
  s : Nat → List IS → LS → LH → RsS
  f : Nat → ITg → List IS → Src → Nat → LS → LH → RsS
  w : Nat → IE → List IS → LS → LH → RsS
  l : Nat → ITg → List IE → IE → List Nat → Src → Nat → Nat → LS → LH → Res Val
  c : Nat → Nat → List Val → LH → Res Val

def vBin (op : Operator) (v w : Val) (h : LH) : Res Val := match op with
  | .Add => vAdd v w h
  | .Sub => vSub v w h
  | .Mult => vMul v w h
  | .FloorDiv => vDiv v w h
  | .Mod => vMod v w h
  | .Pow => vPow v w h
  | _ => .bad
def vCmp (op : CmpOp) (v w : Val) (h : LH) : Res Val := match op with
  | .Eq => vEq v w h
  | .NotEq => vNe v w h
  | .Lt => vLt v w h
  | .LtE => vLe v w h
  | .Gt => vGt v w h
  | .GtE => vGe v w h
  | .Is => vIs v w h
  | .IsNot => vIsn v w h
  | .In => vIn v w h
  | .NotIn => vNin v w h
def blsOf : List Val → Option (List Bool)
  | [] => some []
  | .bl b :: r => (blsOf r).map (b :: ·)
  | _ :: _ => none
def vBi (b : Bi) (vs : List Val) (h : LH) : Res Val := match b with
  | .len => (match vs with
    | [v] => ofO ((lenO v h).map fun (n : Nat) => Val.int (n : Int)) h
    | _ => .bad)
  | .abs => (match vs with
    | [.int i] => .ok (.int (if i < 0 then -i else i)) h
    | _ => .bad)
  | .int => (match vs with
    | [.int i] => .ok (.int i) h
    | [.bl b] => .ok (.int (if b then 1 else 0)) h
    | _ => .bad)
  | .min2 => (match vs with
    | [.int i, .int j] => .ok (.int (if j < i then j else i)) h
    | _ => .bad)
  | .max2 => (match vs with
    | [.int i, .int j] => .ok (.int (if j > i then j else i)) h
    | _ => .bad)
  | .all => (match vs with
    | [v] => (match (seqL v h).bind blsOf with
      | some bs => .ok (.bl (bs.all id)) h
      | none => .bad)
    | _ => .bad)
  | .any => (match vs with
    | [v] => (match (seqL v h).bind blsOf with
      | some bs => .ok (.bl (bs.any id)) h
      | none => .bad)
    | _ => .bad)
  | .list => (match vs with
    | [v] => (match seqL v h with
      | some xs => newL xs h
      | none => match seqT v with
        | some xs => newL xs h
        | none => .bad)
    | _ => .bad)
  | .tuple => (match vs with
    | [v] => (match seqL v h with
      | some xs => .ok (.tup xs) h
      | none => match v with
        | .tup xs => .ok (.tup xs) h
        | _ => .bad)
    | _ => .bad)
def vMt (m : Mt) (o : Val) (vs : List Val) (h : LH) : Res Val := match m with
  | .append => (match o, vs with
    | .loc n, [v] => (match h[n]? with
      | some (.lst xs) => chk (decide (xs.length < sizeLine)) (.ok .non (h.set n (.lst (xs ++ [v]))))
      | _ => .bad)
    | _, _ => .bad)
  | .extend => (match o, vs with
    | .loc n, [.loc m] => (match h[n]?, h[m]? with
      | some (.lst xs), some (.lst zs) => chk (decide (xs.length + zs.length ≤ sizeLine)) (.ok .non (h.set n (.lst (xs ++ zs))))
      | _, _ => .bad)
    | _, _ => .bad)
  | .popAt => (match o, vs with
    | .loc n, [.int i] => (match h[n]? with
      | some (.lst xs) => (match ixN xs.length i with
        | some k => (match xs[k]? with
          | some y => .ok y (h.set n (.lst (xs.eraseIdx k)))
          | none => .bad)
        | none => .bad)
      | _ => .bad)
    | _, _ => .bad)
/-- is the receiver of the method's class -/
def okTy (m : Mt) (v : Val) (h : LH) : Bool := match m with
  | .append => (seqL v h).isSome
  | .extend => (seqL v h).isSome
  | .popAt => (seqL v h).isSome
/-- expressions from the left -/
def evL (f : IE → LS → LH → Res Val) : List IE → LS → LH → Res (List Val)
  | [], _, h => .ok [] h
  | e :: es, sl, h => (f e sl h).bind fun v h1 => (evL f es sl h1).bind fun vs h2 => .ok (v :: vs) h2
/-- and, or: all but the last True or False -/
def evAn (f : IE → LS → LH → Res Val) : List IE → LS → LH → Res Val
  | [], _, _ => .bad
  | [e], sl, h => f e sl h
  | e :: e2 :: es, sl, h => (f e sl h).bind fun v h1 => match v with
    | .bl true => evAn f (e2 :: es) sl h1
    | .bl false => .ok (.bl false) h1
    | _ => .bad
def evOr (f : IE → LS → LH → Res Val) : List IE → LS → LH → Res Val
  | [], _, _ => .bad
  | [e], sl, h => f e sl h
  | e :: e2 :: es, sl, h => (f e sl h).bind fun v h1 => match v with
    | .bl true => .ok (.bl true) h1
    | .bl false => evOr f (e2 :: es) sl h1
    | _ => .bad
def tsAn (f : IE → LS → LH → Res Bool) : List IE → LS → LH → Res Bool
  | [], _, _ => .bad
  | [e], sl, h => f e sl h
  | e :: e2 :: es, sl, h => (f e sl h).bind fun b h1 => match b with
    | true => tsAn f (e2 :: es) sl h1
    | false => .ok false h1
def tsOr (f : IE → LS → LH → Res Bool) : List IE → LS → LH → Res Bool
  | [], _, _ => .bad
  | [e], sl, h => f e sl h
  | e :: e2 :: es, sl, h => (f e sl h).bind fun b h1 => match b with
    | true => .ok true h1
    | false => tsOr f (e2 :: es) sl h1
/-- the ifs of a comprehension (at most one) -/
def tsIf (f : IE → LS → LH → Res Bool) : List IE → LS → LH → Res Bool
  | [], _, h => .ok true h
  | [e], sl, h => f e sl h
  | _, _, _ => .bad
mutual
def bindT : ITg → Val → LS → Option LS
  | .nm i, v, sl => some (sl.set i (some v))
  | .tp ts, v, sl => match seqT v with
    | some xs => bindTs ts xs sl
    | none => none
def bindTs : List ITg → List Val → LS → Option LS
  | [], [], sl => some sl
  | t :: ts, v :: vs, sl => (match bindT t v sl with
    | some sl1 => bindTs ts vs sl1
    | none => none)
  | _, _, _ => none
end
def wipeL (sl : LS) : List Nat → LS
  | [] => sl
  | v :: vs => (wipeL sl vs).set v none
/-- the source, of the values of its parts -/
def mkS0 (vs : List Val) (h : LH) : Option Src := match vs with
  | [v] => if ((seqL v h).isSome || (seqT v).isSome) then some (.seq v) else none
  | _ => none
def mkS1 (vs : List Val) : Option Src := match vs with
  | [.int j] => if -(2 ^ 62) ≤ j ∧ j < 2 ^ 62 then some (.rng 0 j.toNat) else none
  | _ => none
def mkS2 (vs : List Val) : Option Src := match vs with
  | [.int i, .int j] => if -(2 ^ 62) ≤ i ∧ i < 2 ^ 62 ∧ -(2 ^ 62) ≤ j ∧ j < 2 ^ 62 then some (.rng i (j - i).toNat) else none
  | _ => none
def mkS3 (vs : List Val) (h : LH) : Option Src := match vs with
  | [v] => if (seqL v h).isSome then some (.enm v) else none
  | _ => none
def mkS4 (vs : List Val) (h : LH) : Option Src := match vs with
  | [v, w] => if ((seqL v h).isSome && (seqL w h).isSome) then some (.zp v w) else none
  | _ => none
def mkSrc (k : Nat) (vs : List Val) (h : LH) : Option Src := match k with
  | 0 => mkS0 vs h
  | 1 => mkS1 vs
  | 2 => mkS2 vs
  | 3 => mkS3 vs h
  | 4 => mkS4 vs h
  | _ => none
/-- the turn's item: some (some v); the end: some none -/
def item (s : Src) (i : Nat) (h : LH) : Option (Option Val) := match s with
  | .seq v => (match seqL v h with
    | some xs => some xs[i]?
    | none => match seqT v with
      | some xs => some xs[i]?
      | none => none)
  | .rng lo n => if i < n then some (some (.int (lo + i))) else some none
  | .enm v => (match seqL v h with
    | some xs => (match xs[i]? with
      | some x => some (some (.tup [.int i, x]))
      | none => some none)
    | none => none)
  | .zp v w => (match seqL v h, seqL w h with
    | some xs, some ys => (match xs[i]?, ys[i]? with
      | some x, some y => some (some (.tup [x, y]))
      | _, _ => some none)
    | _, _ => none)
def slI1 (v x : Val) (h : LH) : Res Val := match x with
  | .int i => vSl v (some i) none h
  | _ => .bad
def slI2 (v y : Val) (h : LH) : Res Val := match y with
  | .int j => vSl v none (some j) h
  | _ => .bad
def intK (x : Val) (k : Int → Res Val) : Res Val := match x with
  | .int i => k i
  | _ => .bad
/-- the second comparison of a chain -/
def chnK (z : Val) (h : LH) (k : LH → Res Val) : Res Val := match z with
  | .bl true => k h
  | .bl false => .ok (.bl false) h
  | _ => .bad
/-! ### one level -/
section
variable (G : Prg) (r : EV) (d : Nat)
def stE (ie : IE) (sl : LS) (h : LH) : Res Val := match ie with
  | .cst v => chk (noLoc v) (.ok v h)
  | .var i => (match sl[i]? with
    | some (some v) => .ok v h
    | _ => .bad)
  | .bin op a b => (r.e d a sl h).bind fun v h1 => (r.e d b sl h1).bind fun w h2 => vBin op v w h2
  | .neg a => (r.e d a sl h).bind fun v h1 => vNeg v h1
  | .cmp op a b => (r.e d a sl h).bind fun v h1 => (r.e d b sl h1).bind fun w h2 => vCmp op v w h2
  | .chn op op' a b c => (r.e d a sl h).bind fun v h1 => (r.e d b sl h1).bind fun w h2 => (vCmp op v w h2).bind fun z h3 => chnK z h3 fun h3 => (r.e d c sl h3).bind fun u h4 => vCmp op' w u h4
  | .nt a => (r.e d a sl h).bind fun v h1 => match v with
    | .bl b => .ok (.bl (!b)) h1
    | _ => .bad
  | .an es => evAn (r.e d) es sl h
  | .orr es => evOr (r.e d) es sl h
  | .ife c a b => (r.t d c sl h).bind fun x h1 => match x with
    | true => r.e d a sl h1
    | false => r.e d b sl h1
  | .tp es => (evL (r.e d) es sl h).bind fun vs h1 => chk (decide (vs.length ≤ sizeLine)) (.ok (.tup vs) h1)
  | .ls es => (evL (r.e d) es sl h).bind fun vs h1 => chk (decide (vs.length ≤ sizeLine)) (newL vs h1)
  | .cal f es => (match d with
    | 0 => .bad
    | d' + 1 => (evL (r.e (d' + 1)) es sl h).bind fun vs h1 => r.c d' f vs h1)
  | .blt b es => (evL (r.e d) es sl h).bind fun vs h1 => vBi b vs h1
  | .lrg a => (r.e d a sl h).bind fun v h1 => match v with
    | .int n => chk (decide (-(2 ^ 62) ≤ n ∧ n < 2 ^ 62 ∧ n.toNat ≤ 2 ^ 24)) (newL ((List.range n.toNat).map fun (i : Nat) => Val.int (i : Int)) h1)
    | _ => .bad
  | .mth m o es => (r.e d o sl h).bind fun v h1 => match okTy m v h1 with
    | true => (evL (r.e d) es sl h1).bind fun vs h2 => vMt m v vs h2
    | false => .bad
  | .ix a b => (r.e d a sl h).bind fun v h1 => (r.e d b sl h1).bind fun w h2 => vIx v w h2
  | .sl a lo hi => (r.e d a sl h).bind fun v h1 => match lo, hi with
    | none, none => vSl v none none h1
    | some l, none => (r.e d l sl h1).bind fun x h2 => slI1 v x h2
    | none, some u => (r.e d u sl h1).bind fun y h2 => slI2 v y h2
    | some l, some u => (r.e d l sl h1).bind fun x h2 => intK x fun i => (r.e d u sl h2).bind fun y h3 => intK y fun j => vSl v (some i) (some j) h3
  | .mkE c e => (r.e d e sl h).bind fun v h1 => .ok (.err c v) h1
  | .fld e => (r.e d e sl h).bind fun v h1 => vFld G.errs v h1
  | .isi e c => (r.e d e sl h).bind fun v h1 => vIsi G.isiT G.errs c v h1
  | .rpr e => (r.e d e sl h).bind fun v h1 => vRep v h1
  | .dsp ks es => (match ks with
    | [] => .ok (.loc h.length) (h ++ [.dK []])
    | k :: ks => vDsp (k :: ks) (evL (r.e d) es) sl h)
  | .lc tg k es ifs elt own => (evL (r.e d) es sl h).bind fun vs h1 => match mkSrc k vs h1 with
    | some s => r.l d tg ifs elt own s 0 h1.length (wipeL sl own) (h1 ++ [.lst []])
    | none => .bad
def stT (ie : IE) (sl : LS) (h : LH) : Res Bool := match ie with
  | .nt a => (r.t d a sl h).bind fun b h1 => .ok (!b) h1
  | .an es => tsAn (r.t d) es sl h
  | .orr es => tsOr (r.t d) es sl h
  | .cmp op a b => (r.e d (.cmp op a b) sl h).bind fun v h1 => match v with
    | .bl b => .ok b h1
    | _ => .bad
  | .chn op op' a b c => (r.e d (.chn op op' a b c) sl h).bind fun v h1 => match v with
    | .bl b => .ok b h1
    | _ => .bad
  | .ife _ _ _ => .bad
  | e => (r.e d e sl h).bind fun v h1 => match truO v h1 with
    | some b => .ok b h1
    | none => .bad
def ofR (x : Res Val) (sl : LS) (f : Val → LH → RsS) : RsS := match x with
  | .ok v h => f v h
  | .exc c v h => .exc c v sl h
  | .bad => .bad
def ofRB (x : Res Bool) (sl : LS) (f : Bool → LH → RsS) : RsS := match x with
  | .ok v h => f v h
  | .exc c v h => .exc c v sl h
  | .bad => .bad
def ofRL (x : Res (List Val)) (sl : LS) (f : List Val → LH → RsS) : RsS := match x with
  | .ok v h => f v h
  | .exc c v h => .exc c v sl h
  | .bad => .bad
/-- o[i] = v -/
def vSet (o i v : Val) (h : LH) : Option LH := match o with
  | .loc n => (match h[n]? with
    | some (.lst xs) => (match i with
      | .int k => (ixN xs.length k).map fun j => h.set n (.lst (xs.set j v))
      | _ => none)
    | some (.dK kvs) => if kvs.length < sizeLine then (keyOf i).map fun k => h.set n (.dK (put kvs k v)) else none
    | some (.dT kvs) => (match i with
      | .tup ks => if kvs.length < sizeLine then (keysOf ks).map fun k => h.set n (.dT (put kvs k v)) else none
      | _ => none)
    | _ => none)
  | _ => none
def nxB (tg : ITg) (v : Val) (sl : LS) (h1 : LH) : RsS := match bindT tg v sl with
  | some sl1 => .nx sl1 h1
  | none => .bad
def stS1 (st : IS) (sl : LS) (h : LH) : RsS := match st with
  | .ex e => ofR (r.e d e sl h) sl fun _ h1 => .nx sl h1
  | .asg tg e => ofR (r.e d e sl h) sl fun v h1 => nxB tg v sl h1
  | .sub o i e => ofR (r.e d e sl h) sl fun v h1 => ofR (r.e d o sl h1) sl fun ov h2 => ofR (r.e d i sl h2) sl fun iv h3 => match vSet ov iv v h3 with
    | some h4 => .nx sl h4
    | none => .bad
  | .ret none => .rt .non h
  | .ret (some e) => ofR (r.e d e sl h) sl fun v h1 => .rt v h1
  | .iff c a b => ofRB (r.t d c sl h) sl fun x h1 => match x with
    | true => r.s d a sl h1
    | false => r.s d b sl h1
  | .for_ tg k es body => ofRL (evL (r.e d) es sl h) sl fun vs h1 => match mkSrc k vs h1 with
    | some s => r.f d tg body s 0 sl h1
    | none => .bad
  | .whl c body => r.w d c body sl h
  | .brk => .bk sl h
  | .cnt => .ct sl h
  | .pas => .nx sl h
  | .nev => .bad
def stS (sts : List IS) (sl : LS) (h : LH) : RsS := match sts with
  | [] => .nx sl h
  | s :: rest => (match stS1 r d s sl h with
    | .nx sl1 h1 => r.s d rest sl1 h1
    | x => x)
def stF (tg : ITg) (body : List IS) (s : Src) (i : Nat) (sl : LS) (h : LH) : RsS := match item s i h with
  | none => .bad
  | some none => .nx sl h
  | some (some v) => (match bindT tg v sl with
    | none => .bad
    | some sl1 => (match r.s d body sl1 h with
      | .nx sl2 h2 => r.f d tg body s (i + 1) sl2 h2
      | .ct sl2 h2 => r.f d tg body s (i + 1) sl2 h2
      | .bk sl2 h2 => .nx sl2 h2
      | x => x))
def stW (c : IE) (body : List IS) (sl : LS) (h : LH) : RsS := ofRB (r.t d c sl h) sl fun x h1 => match x with
  | false => .nx sl h1
  | true => (match r.s d body sl h1 with
    | .nx sl2 h2 => r.w d c body sl2 h2
    | .ct sl2 h2 => r.w d c body sl2 h2
    | .bk sl2 h2 => .nx sl2 h2
    | x => x)
/-- no exception leaves a comprehension -/
def calm {a : Type} (x : Res a) : Res a := match x with
  | .exc _ _ _ => .bad
  | x => x
def stL (tg : ITg) (ifs : List IE) (elt : IE) (own : List Nat) (s : Src) (i D : Nat) (sl : LS) (h : LH) : Res Val := match item s i h with
  | none => .bad
  | some none => .ok (.loc D) h
  | some (some v) => (match bindT tg v sl with
    | none => .bad
    | some sl1 => (calm (tsIf (r.t d) ifs sl1 h)).bind fun b h1 => match b with
      | false => r.l d tg ifs elt own s (i + 1) D sl h1
      | true => (calm (r.e d elt sl1 h1)).bind fun y h2 => match h2[D]? with
        | some (.lst acc) => (match decide (acc.length < sizeLine) with
          | true => r.l d tg ifs elt own s (i + 1) D sl (h2.set D (.lst (acc ++ [y])))
          | false => .bad)
        | _ => .bad)
def stC (f : Nat) (vs : List Val) (h : LH) : Res Val := match G.defs[f]? with
  | none => .bad
  | some D => (match decide (vs.length = D.ps) with
    | false => .bad
    | true => (match r.s d D.body (vs.map some ++ List.replicate (D.n - vs.length) none) h with
      | .rt v h1 => .ok v h1
      | .nx _ h1 => .ok .non h1
      | .exc c v _ h1 => .exc c v h1
      | _ => .bad))
end
def EV.none : EV := ⟨fun _ _ _ _ => .bad, fun _ _ _ _ => .bad, fun _ _ _ _ => .bad, fun _ _ _ _ _ _ _ => .bad, fun _ _ _ _ _ => .bad, fun _ _ _ _ _ _ _ _ _ _ => .bad, fun _ _ _ _ => .bad⟩
def EV.next (G : Prg) (r : EV) : EV := ⟨fun d => stE G r d, fun d => stT r d, fun d => stS r d, fun d => stF r d, fun d => stW r d, fun d => stL r d, fun d => stC G r d⟩
/-- the evaluator, n levels -/
def run (G : Prg) : Nat → EV
  | 0 => EV.none
  | n + 1 => EV.next G (run G n)
end Mi

set_option Elab.async false
set_option linter.all false
set_option maxRecDepth 100000
set_option maxHeartbeats 1000000
/-! D7: built-in calls, methods, sources, targets. -/
namespace Mi
open PySem L2 PyProof.Rows
def biV : Bi → Value
  | .len => .builtin "len"
  | .abs => .builtin "abs"
  | .int => .type "int"
  | .min2 => .builtin "min"
  | .max2 => .builtin "max"
  | .all => .builtin "all"
  | .any => .builtin "any"
  | .list => .type "list"
  | .tuple => .type "tuple"
section
variable {K : PySem.W.Frag} {ca : Str → Addr} {ia : List Addr} {H : Hp} {h : LH}
theorem rvs1 {v : Val} {xs : List V} (r : RVs K ia H [v] xs) : ∃ x, xs = [x] ∧ RV K ia H v x := by
  cases r with
  | cons a t => cases t; exact ⟨_, rfl, a⟩
theorem rvs2 {v w : Val} {xs : List V} (r : RVs K ia H [v, w] xs) : ∃ x y, xs = [x, y] ∧ RV K ia H v x ∧ RV K ia H w y := by
  cases r with
  | cons a t =>
    obtain ⟨y, rfl, b⟩ := rvs1 t
    exact ⟨_, _, rfl, a, b⟩
theorem blsOf_ok : ∀ {vs : List Val} {xs : List V} {bs : List Bool}, blsOf vs = some bs → RVs K ia H vs xs → xs = bs.map V.bl
  | _, _, _, e, .nil => by cases e; rfl
  | v :: vs, x :: xs, bs, e, .cons r t => by
    cases r with
    | bl b =>
      obtain ⟨bs', e1, e2⟩ := Option.map_eq_some_iff.mp (show (blsOf vs).map (b :: ·) = some bs from e)
      subst e2
      rw [blsOf_ok e1 t]
      rfl
    | _ => cases e
end
section
variable {X : Cx} {ca : Str → Addr}
theorem cv_bi (hc : X.calm = true) (b : Bi) : CallR X (biV b) (rVL X.K ca (vBi b)) := by
  intro pins s st H xs us Q I rx ⟨ia, h, vs, E, R, rv, w⟩
  cases b with
  | len =>
    dsimp only [vBi] at w
    split at w
    · obtain ⟨x, rfl, r1⟩ := rvs1 rv
      obtain ⟨v', e, w⟩ := ofO_ok w
      obtain ⟨n, e1, e2⟩ := Option.map_eq_some_iff.mp e
      subst e2
      exact call_len pins s st H _ us Q I rx ⟨x, n, rfl, lenO_ok R e1 r1, w.now R (.int _)⟩
    · exact (show False from w).elim
  | abs =>
    dsimp only [vBi] at w
    split at w
    · obtain ⟨x, rfl, r1⟩ := rvs1 rv
      cases r1
      exact call_abs pins s st H _ us Q I rx ⟨_, rfl, w.now R (.int _)⟩
    · exact (show False from w).elim
  | int =>
    dsimp only [vBi] at w
    split at w
    · obtain ⟨x, rfl, r1⟩ := rvs1 rv
      cases r1
      exact call_int1 pins s st H _ us Q I rx (.inl ⟨_, rfl, w.now R (.int _)⟩)
    · obtain ⟨x, rfl, r1⟩ := rvs1 rv
      cases r1
      exact call_int1 pins s st H _ us Q I rx (.inr ⟨_, rfl, w.now R (.int _)⟩)
    · exact (show False from w).elim
  | min2 =>
    dsimp only [vBi] at w
    split at w
    · obtain ⟨x, y, rfl, r1, r2⟩ := rvs2 rv
      cases r1; cases r2
      exact call_min2 hc pins s st H _ us Q I rx ⟨_, _, rfl, w.now R (.int _)⟩
    · exact (show False from w).elim
  | max2 =>
    dsimp only [vBi] at w
    split at w
    · obtain ⟨x, y, rfl, r1, r2⟩ := rvs2 rv
      cases r1; cases r2
      exact call_max2 hc pins s st H _ us Q I rx ⟨_, _, rfl, w.now R (.int _)⟩
    · exact (show False from w).elim
  | all =>
    dsimp only [vBi] at w
    split at w
    · split at w
      · rename_i bs e
        obtain ⟨x, rfl, r1⟩ := rvs1 rv
        obtain ⟨zs, e1, e2⟩ := Option.bind_eq_some_iff.mp e
        obtain ⟨a, ys, rfl, hq, rq⟩ := seqL_ok R e1 r1
        have ey := blsOf_ok e2 rq
        subst ey
        exact cr_all hc pins s st H _ us Q I rx ⟨a, bs, rfl, hq, w.now R (.bl _)⟩
      · exact (show False from w).elim
    · exact (show False from w).elim
  | any =>
    dsimp only [vBi] at w
    split at w
    · split at w
      · rename_i bs e
        obtain ⟨x, rfl, r1⟩ := rvs1 rv
        obtain ⟨zs, e1, e2⟩ := Option.bind_eq_some_iff.mp e
        obtain ⟨a, ys, rfl, hq, rq⟩ := seqL_ok R e1 r1
        have ey := blsOf_ok e2 rq
        subst ey
        exact cr_any hc pins s st H _ us Q I rx ⟨a, bs, rfl, hq, w.now R (.bl _)⟩
      · exact (show False from w).elim
    · exact (show False from w).elim
  | list =>
    dsimp only [vBi] at w
    split at w
    · obtain ⟨x, rfl, r1⟩ := rvs1 rv
      split at w
      · rename_i zs e
        obtain ⟨a, ys, rfl, hq, rq⟩ := seqL_ok R e r1
        exact call_list_of pins s st H _ us Q I rx ⟨a, ys, rfl, .inl hq, w.newL R rq⟩
      · split at w
        · rename_i zs e
          obtain ⟨a, ys, rfl, hq, rq⟩ := seqT_ok e r1
          exact call_list_of pins s st H _ us Q I rx ⟨a, ys, rfl, .inr hq, w.newL R rq⟩
        · exact (show False from w).elim
    · exact (show False from w).elim
  | tuple =>
    dsimp only [vBi] at w
    split at w
    · obtain ⟨x, rfl, r1⟩ := rvs1 rv
      split at w
      · rename_i zs e
        obtain ⟨a, ys, rfl, hq, rq⟩ := seqL_ok R e r1
        exact call_tuple_of pins s st H _ us Q I rx ⟨a, ys, rfl, .inl ⟨hq, w.newT R rq⟩⟩
      · split at w
        · have r1' := r1
          cases r1 with
          | @tup _ ys a hq rq => exact call_tuple_of pins s st H _ us Q I rx ⟨a, ys, rfl, .inr ⟨SqT.of hq, w.now R r1'⟩⟩
        · exact (show False from w).elim
    · exact (show False from w).elim
/-! ### methods -/
def rVM (K : PySem.W.Frag) (ca : Str → Addr) (m : Mt) : V → List V → Hp → VK → Prop := fun x xs H Q => ∃ (ia : List Addr) (h : LH) (v : Val) (vs : List Val) (E : XK), Rep K ca ia H h ∧ RV K ia H v x ∧ RVs K ia H vs xs ∧ Want K ca ia H (vMt m v vs h) Q E
def mtId : Mt → String
  | .append => "list.append"
  | .extend => "list.extend"
  | .popAt => "list.pop"
def mtT : Mt → String
  | _ => "list"
def mtName : Mt → Str
  | .append => "append"
  | .extend => "extend"
  | .popAt => "pop"
theorem okTy_ok {K : PySem.W.Frag} {ia : List Addr} {H : Hp} {h : LH} {m : Mt} {v : Val} {x : V} (R : Rep K ca ia H h) (r : RV K ia H v x) (e : okTy m v h = true) : tyV K (mtT m) x H := by
  have e' : (seqL v h).isSome = true := by cases m <;> exact e
  obtain ⟨xs, e1⟩ := Option.isSome_iff_exists.mp e'
  obtain ⟨a, ys, rfl, hq, _⟩ := seqL_ok R e1 r
  cases m <;> exact .inl ⟨rfl, ys, hq⟩
/-- a list of the small heap is written -/
theorem Want.wrote {K : PySem.W.Frag} {ia : List Addr} {H : Hp} {h : LH} {n : Nat} {a : Addr} {v : Val} {y : V} {zs : List Val} {ys ys' : List V} {Q : VK} {E : XK} (w : Want K ca ia H (.ok v (h.set n (.lst zs))) Q E) (R : Rep K ca ia H h) (ha : ia[n]? = some a) (hy : H a = some (.lst ys))
    (r : RV K ia H v y) (rz : RVs K ia H zs ys') : Q y (upd H a (.lst ys')) := by
  have k : Hold H (upd H a (.lst ys')) := Hold.set hy (fun _ z => nomatch z) (fun _ _ z => nomatch z)
  refine w [] _ y (Grow.set ha hy) ?_ ?_
  · rw [app_nil]
    have q := RVs.stay (ka := []) k rz
    rw [app_nil] at q
    exact R.set ha k ⟨ys', upd_same, q⟩
  · exact r.stay k
theorem rvs_erase {K : PySem.W.Frag} {ia : List Addr} {H : Hp} : ∀ {vs : List Val} {xs : List V} (k : Nat), RVs K ia H vs xs → RVs K ia H (vs.eraseIdx k) (xs.eraseIdx k)
  | _, _, _, .nil => by simp; exact .nil
  | _, _, 0, .cons _ t => t
  | _, _, k + 1, .cons a t => .cons a (rvs_erase k t)
theorem mv_mt (m : Mt) : MtR X (mtId m) (rVM X.K ca m) := by
  intro pins s st H x xs v us Q I rx rxs ⟨ia, h, a, vs, E, R, ra, rv, w⟩
  cases m with
  | append =>
    dsimp only [vMt] at w
    split at w
    · split at w
      · rename_i e
        obtain ⟨c, w⟩ := chk_ok w
        have c := of_decide_eq_true c
        obtain ⟨p, ys, rfl, hp, h1, r1⟩ := R.lst e ra
        obtain ⟨y, rfl, r2⟩ := rvs1 rv
        have l := r1.len
        exact mt_append pins s st H _ _ v us Q I rx rxs ⟨p, ys, y, rfl, rfl, h1, by omega, w.wrote R hp h1 .non (r1.app (.cons r2 .nil))⟩
      · exact (show False from w).elim
    · exact (show False from w).elim
  | extend =>
    dsimp only [vMt] at w
    split at w
    · split at w
      · rename_i e e2
        obtain ⟨c, w⟩ := chk_ok w
        have c := of_decide_eq_true c
        obtain ⟨p, ys, rfl, hp, h1, r1⟩ := R.lst e ra
        obtain ⟨y, rfl, r2⟩ := rvs1 rv
        obtain ⟨q, zs, rfl, _, h2, r3⟩ := R.lst e2 r2
        have l := r1.len
        have l2 := r3.len
        exact mt_extend pins s st H _ _ v us Q I rx rxs ⟨p, q, ys, zs, rfl, rfl, h1, h2, by omega, w.wrote R hp h1 .non (r1.app r3)⟩
      · exact (show False from w).elim
    · exact (show False from w).elim
  | popAt =>
    dsimp only [vMt] at w
    split at w
    · split at w
      · rename_i e
        split at w
        · rename_i k ek
          split at w
          · rename_i y ey
            obtain ⟨p, ys, rfl, hp, h1, r1⟩ := R.lst e ra
            obtain ⟨z, rfl, r2⟩ := rvs1 rv
            cases r2
            obtain ⟨y', e1, r3⟩ := r1.get ey
            have l := r1.len
            rw [l] at ek
            obtain ⟨k1, k2, k3, k4⟩ := ixN_seq ek
            obtain ⟨_, _, _, _, hz⟩ := I.lst h1
            have hn := line63
            exact mt_popAt pins s st H _ _ v us Q I rx rxs ⟨p, ys, _, k, y', rfl, rfl, h1, by omega, by omega, k1, e1, w.wrote R hp h1 r3 (rvs_erase k r1)⟩
          · exact (show False from w).elim
        · exact (show False from w).elim
      · exact (show False from w).elim
    · exact (show False from w).elim
end
end Mi

set_option Elab.async false
set_option linter.all false
set_option maxRecDepth 100000
set_option maxHeartbeats 1000000
/-! D8: sources, targets, blocks, loops. -/
namespace Mi
open PySem L2 PyProof.Rows
def isL : Val → Bool
  | .cl _ => true
  | .loc _ => true
  | _ => false
def isT : Val → Bool
  | .tup _ => true
  | .ct _ => true
  | _ => false
/-- how a source lies in the layer -/
def SrcR (K : PySem.W.Frag) (ia : List Addr) (H : Hp) (s : Src) (J : It) : Prop := match s with
  | .seq v => ∃ a, RV K ia H v (.ref a) ∧ ((isL v = true ∧ J = Itl K a) ∨ (isT v = true ∧ J = Itt K a))
  | .rng lo n => J = Itr lo n
  | .enm v => ∃ a, RV K ia H v (.ref a) ∧ isL v = true ∧ J = Ite K a
  | .zp v w => ∃ a b, RV K ia H v (.ref a) ∧ RV K ia H w (.ref b) ∧ isL v = true ∧ isL w = true ∧ J = Itz K a b
section
variable {K : PySem.W.Frag} {ca : Str → Addr} {ia ka : List Addr} {H H' : Hp} {h : LH} {s : Src} {J : It} {i : Nat}
theorem SrcR.stay (k : Hold H H') (r : SrcR K ia H s J) : SrcR K (ia ++ ka) H' s J := by
  cases s with
  | seq v => obtain ⟨a, q, z⟩ := r; exact ⟨a, q.stay k, z⟩
  | rng lo n => exact r
  | enm v => obtain ⟨a, q, z⟩ := r; exact ⟨a, q.stay k, z⟩
  | zp v w => obtain ⟨a, b, q, q2, z⟩ := r; exact ⟨a, b, q.stay k, q2.stay k, z⟩
/-- a new tuple disturbs nothing -/
theorem Rep.tupNew (R : Rep K ca ia H h) {p : Addr} {ys : List V} (n : H p = none) : Rep K ca ia (upd H p (.tup ys)) h ∧ Grow ia H [] (upd H p (.tup ys)) := by
  have k : Hold H (upd H p (.tup ys)) := Hold.new n
  refine ⟨⟨R.len, R.nd, fun m o a e1 e2 => ?_⟩, ⟨fun b o e _ => by rw [upd_ne (ne_of_none e n)]; exact e, fun b o e => ⟨o, by rw [upd_ne (ne_of_none e n)]; exact e⟩, fun _ z => nomatch z⟩⟩
  have q := R.ob m o a e1 e2
  have ne : a ≠ p := fun z => by
    rw [z] at q
    cases o with
    | lst _ => obtain ⟨_, q, _⟩ := q; rw [n] at q; cases q
    | dK _ => obtain ⟨_, q, _⟩ := q; rw [n] at q; cases q
    | dT _ => obtain ⟨_, q, _⟩ := q; rw [n] at q; cases q
    | ins _ _ => obtain ⟨_, _, q, _⟩ := q; rw [n] at q; cases q
  have z := q.stay (ka := []) k (upd_ne ne)
  rw [app_nil] at z
  exact z
theorem isL_some {v : Val} (e : isL v = true) : seqT v = none := by cases v <;> first | rfl | cases e
theorem isT_some {v : Val} (e : isT v = true) : seqL v h = none ∧ ∃ xs, seqT v = some xs := by cases v <;> first | exact ⟨rfl, _, rfl⟩ | cases e
end
section
variable {K : PySem.W.Frag} {ca : Str → Addr} {ia : List Addr} {H : Hp} {h : LH} {s : Src} {J : It} {i : Nat}
theorem item_go (R : Rep K ca ia H h) (r : SrcR K ia H s J) {v : Val} (e : item s i h = some (some v)) :
    J.go i H ∧ ∀ x H', J.yld i H x H' → Grow ia H [] H' ∧ Rep K ca ia H' h ∧ RV K ia H' v x := by
  cases s with
  | seq w =>
    obtain ⟨a, q, ⟨hl, hJ⟩ | ⟨ht, hJ⟩⟩ := r
    · subst hJ
      have e' : (match seqL w h with
        | some xs => some xs[i]?
        | none => match seqT w with
          | some xs => some xs[i]?
          | none => none) = some (some v) := e
      rw [isL_some hl] at e'
      split at e'
      · rename_i xs e1
        obtain ⟨b, ys, eb, hs, rs⟩ := seqL_ok R e1 q
        cases eb
        obtain ⟨y, e2, ry⟩ := rs.get (Option.some.inj e')
        refine ⟨⟨ys, y, hs, e2⟩, fun x H' hy => ?_⟩
        obtain ⟨rfl, hy⟩ := hy
        have ex := hy ys hs
        rw [e2] at ex
        cases ex
        exact ⟨Grow.refl ia _, R, ry⟩
      · cases e'
    · subst hJ
      obtain ⟨h1, xs, h2⟩ := isT_some (h := h) ht
      have e' : (match seqL w h with
        | some xs => some xs[i]?
        | none => match seqT w with
          | some xs => some xs[i]?
          | none => none) = some (some v) := e
      rw [h1, h2] at e'
      obtain ⟨b, ys, eb, hs, rs⟩ := seqT_ok h2 q
      cases eb
      obtain ⟨y, e2, ry⟩ := rs.get (Option.some.inj e')
      refine ⟨⟨ys, y, hs, e2⟩, fun x H' hy => ?_⟩
      obtain ⟨rfl, hy⟩ := hy
      have ex := hy ys hs
      rw [e2] at ex
      cases ex
      exact ⟨Grow.refl ia _, R, ry⟩
  | rng lo n =>
    cases r
    have e' : (if i < n then some (some (Val.int (lo + i))) else some none) = some (some v) := e
    split at e'
    · rename_i hi
      cases e'
      refine ⟨hi, fun x H' hy => ?_⟩
      obtain ⟨rfl, rfl⟩ := hy
      exact ⟨Grow.refl ia _, R, .int _⟩
    · cases e'
  | enm w =>
    obtain ⟨a, q, hl, hJ⟩ := r
    subst hJ
    have e' : (match seqL w h with
      | some xs => (match xs[i]? with
        | some x => some (some (Val.tup [.int i, x]))
        | none => some none)
      | none => none) = some (some v) := e
    split at e'
    · rename_i xs e1
      obtain ⟨b, ys, eb, hs, rs⟩ := seqL_ok R e1 q
      cases eb
      split at e'
      · rename_i x0 e0
        cases e'
        obtain ⟨y, e2, ry⟩ := rs.get e0
        refine ⟨⟨ys, y, hs, e2⟩, fun x H' hy => ?_⟩
        obtain ⟨T, x1, rfl, hT, rfl, hy⟩ := hy
        have ex := hy ys hs
        rw [e2] at ex
        cases ex
        obtain ⟨R', g⟩ := R.tupNew (ys := [.int (i : Nat), y]) hT
        have q2 := RV.stay (ka := []) (Hold.new (o := .tup [.int (i : Nat), y]) hT) ry
        rw [app_nil] at q2
        exact ⟨g, R', .tup upd_same (.cons (.int _) (.cons q2 .nil))⟩
      · cases e'
    · cases e'
  | zp w u =>
    obtain ⟨a, b, q, qb, hl, hl2, hJ⟩ := r
    subst hJ
    have e' : (match seqL w h, seqL u h with
      | some xs, some ys => (match xs[i]?, ys[i]? with
        | some x, some y => some (some (Val.tup [x, y]))
        | _, _ => some none)
      | _, _ => none) = some (some v) := e
    split at e'
    · rename_i xs zs e1 e1'
      obtain ⟨c, ys, eb, hs, rs⟩ := seqL_ok R e1 q
      cases eb
      obtain ⟨c2, ys2, eb2, hs2, rs2⟩ := seqL_ok R e1' qb
      cases eb2
      split at e'
      · rename_i x0 y0 e0 e0'
        cases e'
        obtain ⟨y, e2, ry⟩ := rs.get e0
        obtain ⟨y2, e22, ry2⟩ := rs2.get e0'
        refine ⟨⟨ys, ys2, y, y2, hs, hs2, e2, e22⟩, fun x H' hy => ?_⟩
        obtain ⟨T, x1, x2, rfl, hT, rfl, hy, hy2⟩ := hy
        have ex := hy ys hs
        rw [e2] at ex
        cases ex
        have ex2 := hy2 ys2 hs2
        rw [e22] at ex2
        cases ex2
        obtain ⟨R', g⟩ := R.tupNew (ys := [y, y2]) hT
        have q1 := RV.stay (ka := []) (Hold.new (o := .tup [y, y2]) hT) ry
        have q2 := RV.stay (ka := []) (Hold.new (o := .tup [y, y2]) hT) ry2
        rw [app_nil] at q1 q2
        exact ⟨g, R', .tup upd_same (.cons q1 (.cons q2 .nil))⟩
      · cases e'
    · cases e'
theorem none_le {xs : List Val} {ys : List V} (r : RVs K ia H xs ys) (e : xs[i]? = none) : ys.length ≤ i := by
  rw [← r.len]
  exact List.getElem?_eq_none_iff.mp e
theorem item_stop (R : Rep K ca ia H h) (r : SrcR K ia H s J) (e : item s i h = some none) : J.stop i H := by
  cases s with
  | seq w =>
    obtain ⟨a, q, ⟨hl, hJ⟩ | ⟨ht, hJ⟩⟩ := r
    · subst hJ
      have e' : (match seqL w h with
        | some xs => some xs[i]?
        | none => match seqT w with
          | some xs => some xs[i]?
          | none => none) = some none := e
      rw [isL_some hl] at e'
      split at e'
      · rename_i xs e1
        obtain ⟨b, ys, eb, hs, rs⟩ := seqL_ok R e1 q
        cases eb
        exact ⟨ys, hs, none_le rs (Option.some.inj e')⟩
      · cases e'
    · subst hJ
      obtain ⟨h1, xs, h2⟩ := isT_some (h := h) ht
      have e' : (match seqL w h with
        | some xs => some xs[i]?
        | none => match seqT w with
          | some xs => some xs[i]?
          | none => none) = some none := e
      rw [h1, h2] at e'
      obtain ⟨b, ys, eb, hs, rs⟩ := seqT_ok h2 q
      cases eb
      exact ⟨ys, hs, none_le rs (Option.some.inj e')⟩
  | rng lo n =>
    cases r
    have e' : (if i < n then some (some (Val.int (lo + i))) else some none) = some none := e
    split at e'
    · cases e'
    · rename_i hi
      exact Nat.le_of_not_lt hi
  | enm w =>
    obtain ⟨a, q, hl, hJ⟩ := r
    subst hJ
    have e' : (match seqL w h with
      | some xs => (match xs[i]? with
        | some x => some (some (Val.tup [.int i, x]))
        | none => some none)
      | none => none) = some none := e
    split at e'
    · rename_i xs e1
      obtain ⟨b, ys, eb, hs, rs⟩ := seqL_ok R e1 q
      cases eb
      split at e'
      · cases e'
      · rename_i e0
        exact ⟨ys, hs, none_le rs e0⟩
    · cases e'
  | zp w u =>
    obtain ⟨a, b, q, qb, hl, hl2, hJ⟩ := r
    subst hJ
    have e' : (match seqL w h, seqL u h with
      | some xs, some ys => (match xs[i]?, ys[i]? with
        | some x, some y => some (some (Val.tup [x, y]))
        | _, _ => some none)
      | _, _ => none) = some none := e
    split at e'
    · rename_i xs zs e1 e1'
      obtain ⟨c, ys, eb, hs, rs⟩ := seqL_ok R e1 q
      cases eb
      obtain ⟨c2, ys2, eb2, hs2, rs2⟩ := seqL_ok R e1' qb
      cases eb2
      split at e'
      · cases e'
      · rename_i hno
        refine ⟨ys, ys2, hs, hs2, ?_⟩
        cases z : xs[i]? with
        | none => exact .inl (none_le rs z)
        | some x =>
          cases z2 : zs[i]? with
          | none => exact .inr (none_le rs2 z2)
          | some y => exact absurd z2 (hno x y z)
    · cases e'
end
/-! ### a source is made -/
section
variable (K : PySem.W.Frag) (ca : Str → Addr)
def WantI (ia : List Addr) (H : Hp) (r : Res Src) (Q : It → Hp → Prop) (E : XK) : Prop := match r with
  | .ok s h' => ∀ (ka : List Addr) (H' : Hp) (J : It), Grow ia H ka H' → Rep K ca (ia ++ ka) H' h' → SrcR K (ia ++ ka) H' s J → Q J H'
  | .exc c v h' => ∀ (ka : List Addr) (H' : Hp) (d : Addr) (w : V), Grow ia H ka H' → Rep K ca (ia ++ ka) H' h' → H' d = some (.xd [("value", w)]) → RV K (ia ++ ka) H' v w → E (.ref (ca c)) (some d) H'
  | .bad => False
def tSrc (W : WS) (m : M Src) : TI := fun st H R => ∃ (ia : List Addr) (sl : LS) (h : LH), Rep K ca ia H h ∧ RS K ia H sl st ∧ WantI K ca ia H (m sl h) R (fun c d H' => W c d st H')
end
/-- the source of the values -/
def srcM (k : Nat) (m : M (List Val)) : M Src := fun sl h => (m sl h).bind fun vs h1 => match mkSrc k vs h1 with
  | some s => .ok s h1
  | none => .bad
section
variable {X : Cx} {ca : Str → Addr} {W : WS}
theorem WantI.now {K : PySem.W.Frag} {ia : List Addr} {H : Hp} {h : LH} {s : Src} {J : It} {Q : It → Hp → Prop} {E : XK} (w : WantI K ca ia H (.ok s h) Q E) (R : Rep K ca ia H h) (r : SrcR K ia H s J) : Q J H :=
  w [] H J (Grow.refl ia H) (by rw [app_nil]; exact R) (by rw [app_nil]; exact r)
theorem WantI.shift {K : PySem.W.Frag} {ia ka : List Addr} {H H1 : Hp} {r : Res Src} {Q : It → Hp → Prop} {E : XK} (w : WantI K ca ia H r Q E) (g : Grow ia H ka H1) : WantI K ca (ia ++ ka) H1 r Q E := by
  cases r with
  | bad => exact w
  | ok v h' =>
    intro la H' y g2 R r
    rw [List.append_assoc] at R r
    exact w (ka ++ la) H' y (g.trans g2) R r
  | exc c v h' =>
    intro la H' d y g2 R hd r
    rw [List.append_assoc] at R r
    exact w (ka ++ la) H' d y (g.trans g2) R hd r
/-- the source's parts, then the source -/
theorem tSrc.parts {k : Nat} {m : M (List Val)} {st : L2.St} {H : Hp} {R : It → Hp → Prop} (t : tSrc X.K ca W (srcM k m) st H R) :
    tOfL X.K ca W m st H (fun xs H1 => ∃ (ia : List Addr) (h : LH) (vs : List Val) (s : Src), Rep X.K ca ia H1 h ∧ RVs X.K ia H1 vs xs ∧ mkSrc k vs h = some s ∧ ∀ J, SrcR X.K ia H1 s J → R J H1) := by
  obtain ⟨ia, sl, h, Re, S, w⟩ := t
  refine ⟨ia, sl, h, Re, S, .nil, ?_⟩
  unfold srcM at w
  cases e : m sl h with
  | bad => rw [e] at w; exact w
  | exc c v h' => rw [e] at w; exact w
  | ok vs h1 =>
    rw [e] at w
    intro ka H1 xs g R1 r1
    have w' : WantI X.K ca ia H (match mkSrc k vs h1 with
      | some s => .ok s h1
      | none => .bad) R (fun c d H' => W c d st H') := w
    split at w'
    · rename_i s es
      exact ⟨ia ++ ka, h1, vs, s, R1, r1, es, fun J hJ => (WantI.shift w' g).now R1 hJ⟩
    · exact (show False from w').elim
theorem pi_seq {tg l : Expr} {tl : TE} (hl : PE X l tl) : PI X tg l (fun st H R => tl st H fun x H1 => ∃ a, x = .ref a ∧ ((∃ xs, SqL X.K H1 a xs) ∧ R (Itl X.K a) H1 ∨ (∃ xs, SqT X.K H1 a xs) ∧ R (Itt X.K a) H1)) := by
  refine ⟨fun pins s st H R I h => ?_⟩
  refine thn (hl.run pins s st H _ I h) fun v s1 ⟨x, H1, I1, r1, q1⟩ => ?_
  obtain ⟨a, e, ⟨⟨xs, hq⟩, q⟩ | ⟨⟨xs, hq⟩, q⟩⟩ := q1
  · subst e
    cases r1
    obtain ⟨its, rv, p, hz⟩ := I1.list hq
    refine wpAny_pyIter_list p.isList ?_
    refine ⟨s1.heap.objs.size, [s1.heap.objs.size], _, _, H1, rfl, I1.kept (t' := s1.toks) fun b o e => Heap.get?_push_of_some _ e, turn_list a _, ⟨_, Heap.get?_push_size _ rfl, rfl, rfl⟩, fun b hb => ?_, q⟩
    have e : b = s1.heap.objs.size := by simpa using hb
    subst e
    exact I1.fpOk (Nat.le_refl _) (I1.hok.fresh (Nat.le_refl _))
  · subst e
    cases r1
    obtain ⟨its, rv, p, hz⟩ := I1.tuple hq
    refine wpAny_pyIter_tuple (show s1.heap.IsTuple a its.toArray from p) ?_
    refine ⟨s1.heap.objs.size, [s1.heap.objs.size], _, _, H1, rfl, I1.kept (t' := s1.toks) fun b o e => Heap.get?_push_of_some _ e, turn_tuple a _, ⟨_, Heap.get?_push_size _ rfl, rfl, rfl⟩, fun b hb => ?_, q⟩
    have e : b = s1.heap.objs.size := by simpa using hb
    subst e
    exact I1.fpOk (Nat.le_refl _) (I1.hok.fresh (Nat.le_refl _))
end
end Mi

set_option Elab.async false
set_option linter.all false
set_option maxRecDepth 100000
set_option maxHeartbeats 1000000
/-! D9: blocks, targets, loops, comprehensions, by their readings. -/
namespace Mi
open PySem L2 PyProof.Rows
section
variable (K : PySem.W.Frag) (ca : Str → Addr)
def WantS (ia : List Addr) (H : Hp) (r : RsS) (D : Ends) (W : WS) : Prop := match r with
  | .nx sl h' => ∀ (ka : List Addr) (H' : Hp) (st : L2.St), Grow ia H ka H' → Rep K ca (ia ++ ka) H' h' → RS K (ia ++ ka) H' sl st → D.nx st H'
  | .rt v h' => ∀ (ka : List Addr) (H' : Hp) (w : V), Grow ia H ka H' → Rep K ca (ia ++ ka) H' h' → RV K (ia ++ ka) H' v w → D.rt w H'
  | .bk sl h' => ∀ (ka : List Addr) (H' : Hp) (st : L2.St), Grow ia H ka H' → Rep K ca (ia ++ ka) H' h' → RS K (ia ++ ka) H' sl st → D.bk st H'
  | .ct sl h' => ∀ (ka : List Addr) (H' : Hp) (st : L2.St), Grow ia H ka H' → Rep K ca (ia ++ ka) H' h' → RS K (ia ++ ka) H' sl st → D.ct st H'
  | .exc c v sl h' => ∀ (ka : List Addr) (H' : Hp) (d : Addr) (w : V) (st : L2.St), Grow ia H ka H' → Rep K ca (ia ++ ka) H' h' → H' d = some (.xd [("value", w)]) → RV K (ia ++ ka) H' v w → RS K (ia ++ ka) H' sl st → W (.ref (ca c)) (some d) st H'
  | .bad => False
abbrev MS := LS → LH → RsS
def tS (W : WS) (m : MS) : TS := fun D st H => ∃ (ia : List Addr) (sl : LS) (h : LH), Rep K ca ia H h ∧ RS K ia H sl st ∧ WantS K ca ia H (m sl h) D W
end
section
variable {K : PySem.W.Frag} {ca : Str → Addr} {ia ka : List Addr} {H H1 : Hp} {h : LH} {W : WS} {st : L2.St} {D : Ends}
theorem WantS.shift {r : RsS} (w : WantS K ca ia H r D W) (g : Grow ia H ka H1) : WantS K ca (ia ++ ka) H1 r D W := by
  cases r with
  | bad => exact w
  | nx sl h' => intro la H' y g2 R r; rw [List.append_assoc] at R r; exact w (ka ++ la) H' y (g.trans g2) R r
  | rt sl h' => intro la H' y g2 R r; rw [List.append_assoc] at R r; exact w (ka ++ la) H' y (g.trans g2) R r
  | bk sl h' => intro la H' y g2 R r; rw [List.append_assoc] at R r; exact w (ka ++ la) H' y (g.trans g2) R r
  | ct sl h' => intro la H' y g2 R r; rw [List.append_assoc] at R r; exact w (ka ++ la) H' y (g.trans g2) R r
  | exc c v sl h' => intro la H' d y s2 g2 R hd r q; rw [List.append_assoc] at R r q; exact w (ka ++ la) H' d y s2 (g.trans g2) R hd r q
theorem WantS.nxNow {sl : LS} (w : WantS K ca ia H (.nx sl h) D W) (R : Rep K ca ia H h) (S : RS K ia H sl st) : D.nx st H :=
  w [] H st (Grow.refl ia H) (by rw [app_nil]; exact R) (by rw [app_nil]; exact S)
/-- an expression, then what follows -/
theorem tS.ofR {m : M Val} {f : Val → MS} (t : tS K ca W (fun sl h => ofR (m sl h) sl fun v h1 => f v sl h1) D st H) :
    tOf K ca W m st H (fun x H1 => ∃ (ia : List Addr) (sl : LS) (h : LH) (v : Val), Rep K ca ia H1 h ∧ RS K ia H1 sl st ∧ RV K ia H1 v x ∧ WantS K ca ia H1 (f v sl h) D W) := by
  obtain ⟨ia, sl, h, R, S, w⟩ := t
  refine ⟨ia, sl, h, R, S, .nil, ?_⟩
  dsimp only at w
  cases e : m sl h with
  | bad => rw [e] at w; exact w
  | exc c v h' =>
    rw [e] at w
    exact fun ka H' d y g R' hd r => w ka H' d y st g R' hd r (S.grow g R)
  | ok v h1 =>
    rw [e] at w
    exact fun ka H1 x g R1 r1 => ⟨ia ++ ka, sl, h1, v, R1, S.grow g R, r1, WantS.shift w g⟩
theorem tS.ofRB {m : M Bool} {f : Bool → MS} (t : tS K ca W (fun sl h => ofRB (m sl h) sl fun v h1 => f v sl h1) D st H) :
    tOfB K ca W m st H (fun b H1 => tS K ca W (f b) D st H1) := by
  obtain ⟨ia, sl, h, R, S, w⟩ := t
  refine ⟨ia, sl, h, R, S, .nil, ?_⟩
  dsimp only at w
  cases e : m sl h with
  | bad => rw [e] at w; exact w
  | exc c v h' =>
    rw [e] at w
    exact fun ka H' d y g R' hd r => w ka H' d y st g R' hd r (S.grow g R)
  | ok v h1 =>
    rw [e] at w
    exact fun ka H1 g R1 => ⟨ia ++ ka, sl, h1, R1, S.grow g R, WantS.shift w g⟩
/-- one statement, then the rest -/
theorem tS.seq {m m2 : MS} (t : tS K ca W (fun sl h => match m sl h with
    | .nx sl1 h1 => m2 sl1 h1
    | x => x) D st H) : tS K ca W m { D with nx := tS K ca W m2 D } st H := by
  obtain ⟨ia, sl, h, R, S, w⟩ := t
  refine ⟨ia, sl, h, R, S, ?_⟩
  dsimp only at w
  cases e : m sl h with
  | bad => rw [e] at w; exact w
  | exc c v sl' h' => rw [e] at w; exact w
  | rt v h' => rw [e] at w; exact w
  | bk v h' => rw [e] at w; exact w
  | ct v h' => rw [e] at w; exact w
  | nx sl1 h1 =>
    rw [e] at w
    exact fun ka H1 st1 g R1 S1 => ⟨ia ++ ka, sl1, h1, R1, S1, WantS.shift w g⟩
end
/-! ### targets -/
mutual
def slots : ITg → List Nat
  | .nm i => [i]
  | .tp ts => slotsL ts
def slotsL : List ITg → List Nat
  | [] => []
  | t :: ts => slots t ++ slotsL ts
end
/-- alike but at some slots -/
structure Agr (S : List Nat) (st st' : L2.St) : Prop where
  len : st'.length = st.length
  at_ : ∀ j : Nat, j ∉ S → st'[j]? = st[j]?
theorem Agr.refl (S : List Nat) (st : L2.St) : Agr S st st := ⟨rfl, fun _ _ => rfl⟩
theorem Agr.trans {S T : List Nat} {a b c : L2.St} (x : Agr S a b) (y : Agr T b c) : Agr (S ++ T) a c :=
  ⟨y.len.trans x.len, fun j h => (y.at_ j fun z => h (List.mem_append_right _ z)).trans (x.at_ j fun z => h (List.mem_append_left _ z))⟩
def gB (K : PySem.W.Frag) (ca : Str → Addr) (tg : ITg) : TG := fun x st H Q => ∃ (ia : List Addr) (sl : LS) (h : LH) (v : Val) (sl' : LS), Rep K ca ia H h ∧ RS K ia H sl st ∧ RV K ia H v x ∧ bindT tg v sl = some sl' ∧
  ∀ st', RS K ia H sl' st' → Agr (slots tg) st st' → Q st' H
def gBs (K : PySem.W.Frag) (ca : Str → Addr) (tgs : List ITg) : TGs := fun xs st H Q => ∃ (ia : List Addr) (sl : LS) (h : LH) (vs : List Val) (sl' : LS), Rep K ca ia H h ∧ RS K ia H sl st ∧ RVs K ia H vs xs ∧ bindTs tgs vs sl = some sl' ∧
  ∀ st', RS K ia H sl' st' → Agr (slotsL tgs) st st' → Q st' H
section
variable {X : Cx} {ca : Str → Addr}
theorem pg_imp {e : Expr} {t t' : TG} (h : PG X e t) (k : ∀ v st H Q, t' v st H Q → t v st H Q) : PG X e t' := ⟨fun pins s st H v u Q I r q => h.run pins s st H v u Q I r (k v st H Q q)⟩
theorem pgs_imp {e : List Expr} {t t' : TGs} (h : PGs X e t) (k : ∀ v st H Q, t' v st H Q → t v st H Q) : PGs X e t' := ⟨fun pins s st H v u Q I r q => h.run pins s st H v u Q I r (k v st H Q q)⟩
theorem gB_nm {i : Nat} {x : V} {st : L2.St} {H : Hp} {Q : L2.St → Hp → Prop} (t : gB X.K ca (.nm i) x st H Q) : gName i x st H Q := by
  obtain ⟨ia, sl, h, v, sl', R, S, r, e, q⟩ := t
  have e' : some (sl.set i (some v)) = some sl' := e
  cases e'
  refine q _ (S.set r) ⟨by simp, fun j hj => ?_⟩
  have ne : i ≠ j := fun z => hj (by simp [slots, z])
  exact List.getElem?_set_ne ne
theorem gBs_nil {xs : List V} {st : L2.St} {H : Hp} {Q : L2.St → Hp → Prop} (t : gBs X.K ca [] xs st H Q) : gNil xs st H Q := by
  obtain ⟨ia, sl, h, vs, sl', R, S, r, e, q⟩ := t
  cases r with
  | nil =>
    have e' : some sl = some sl' := e
    cases e'
    exact ⟨rfl, q st S (Agr.refl _ _)⟩
  | cons a b => cases e
theorem gBs_cons {t : ITg} {ts : List ITg} {xs : List V} {st : L2.St} {H : Hp} {Q : L2.St → Hp → Prop} (g : gBs X.K ca (t :: ts) xs st H Q) : gCons (gB X.K ca t) (gBs X.K ca ts) xs st H Q := by
  obtain ⟨ia, sl, h, vs, sl', R, S, r, e, q⟩ := g
  cases r with
  | nil => cases e
  | @cons v vs x xs r rs =>
    have e' : (match bindT t v sl with
      | some sl1 => bindTs ts vs sl1
      | none => none) = some sl' := e
    split at e'
    · rename_i sl1 e1
      exact ⟨x, xs, rfl, ia, sl, h, v, sl1, R, S, r, e1, fun st1 S1 a1 => ⟨ia, sl1, h, vs, sl', R, S1, rs, e', fun st2 S2 a2 => q st2 S2 (a1.trans a2)⟩⟩
    · cases e'
theorem gB_tp {ts : List ITg} {n : Nat} {x : V} {st : L2.St} {H : Hp} {Q : L2.St → Hp → Prop} (hn : ts.length = n) (t : gB X.K ca (.tp ts) x st H Q) : gTup X.K n (gBs X.K ca ts) x st H Q := by
  obtain ⟨ia, sl, h, v, sl', R, S, r, e, q⟩ := t
  have e' : (match seqT v with
    | some xs => bindTs ts xs sl
    | none => none) = some sl' := e
  split at e'
  · rename_i xs ex
    obtain ⟨a, ys, rfl, hs, rs⟩ := seqT_ok ex r
    have hl : ∀ (ts : List ITg) (xs : List Val) (sl : LS), bindTs ts xs sl = some sl' → xs.length = ts.length := by
      intro ts
      induction ts with
      | nil => intro xs sl e; cases xs with
        | nil => rfl
        | cons _ _ => cases e
      | cons t ts ih =>
        intro xs sl e
        cases xs with
        | nil => cases e
        | cons v vs =>
          have e2 : (match bindT t v sl with
            | some sl1 => bindTs ts vs sl1
            | none => none) = some sl' := e
          split at e2
          · simp [ih _ _ e2]
          · cases e2
    exact ⟨a, ys, rfl, hs, by rw [← rs.len, hl _ _ _ e', hn], ia, sl, h, xs, sl', R, S, rs, e', fun st' S' a' => q st' S' a'⟩
  · cases e'
end
/-! ### for -/
section
variable {K : PySem.W.Frag} {ca : Str → Addr} {W : WS} {G : Prg}
theorem for_read {n d : Nat} {tg : ITg} {k : Nat} {es : List IE} {ib : List IS} {D : Ends} {st : L2.St} {H : Hp} (mS : M (List Val))
    (t : tS K ca W (fun sl h => ofRL (mS sl h) sl fun vs h1 => match mkSrc k vs h1 with
      | some s => (run G n).f d tg ib s 0 sl h1
      | none => .bad) D st H) :
    tFor (tSrc K ca W (srcM k mS)) (gB K ca tg) (fun D st H => ∃ m, m ≤ n ∧ tS K ca W ((run G m).s d ib) D st H) D st H := by
  obtain ⟨ia, sl, h, R, S, w⟩ := t
  refine ⟨ia, sl, h, R, S, ?_⟩
  dsimp only at w
  unfold srcM
  cases e : mS sl h with
  | bad => rw [e] at w; exact w
  | exc c v h' =>
    rw [e] at w
    exact fun ka H' d y g R' hd r => w ka H' d y st g R' hd r (S.grow g R)
  | ok vs h1 =>
    rw [e] at w
    have w' : WantS K ca ia H (match mkSrc k vs h1 with
      | some s => (run G n).f d tg ib s 0 sl h1
      | none => .bad) D W := w
    show WantI K ca ia H (match mkSrc k vs h1 with
      | some s => Res.ok s h1
      | none => .bad) _ _
    cases es : mkSrc k vs h1 with
    | none => rw [es] at w'; exact w'
    | some src =>
      rw [es] at w'
      intro ka H1 J g R1 sr
      refine ⟨fun i m st H => m ≤ n ∧ ∃ (ia : List Addr) (sl : LS) (h : LH), Rep K ca ia H h ∧ RS K ia H sl st ∧ SrcR K ia H src J ∧ WantS K ca ia H ((run G m).f d tg ib src i sl h) D W, ⟨n, Nat.le_refl n, ia ++ ka, sl, h1, R1, S.grow g R, sr, WantS.shift w' g⟩, ?_⟩
      rintro i m st2 H2 ⟨hm, ia2, sl2, h2, R2, S2, sr2, w2⟩
      cases m with
      | zero => exact (show False from w2).elim
      | succ m =>
        have w3 : WantS K ca ia2 H2 (match item src i h2 with
          | none => .bad
          | some none => .nx sl2 h2
          | some (some v) => (match bindT tg v sl2 with
            | none => .bad
            | some sl1 => (match (run G m).s d ib sl1 h2 with
              | .nx sl2 h2 => (run G m).f d tg ib src (i + 1) sl2 h2
              | .ct sl2 h2 => (run G m).f d tg ib src (i + 1) sl2 h2
              | .bk sl2 h2 => .nx sl2 h2
              | x => x))) D W := w2
        cases ei : item src i h2 with
        | none => rw [ei] at w3; exact (show False from w3).elim
        | some o =>
          cases o with
          | none =>
            rw [ei] at w3
            exact .inl ⟨item_stop R2 sr2 ei, WantS.nxNow w3 R2 S2⟩
          | some v =>
            rw [ei] at w3
            obtain ⟨hgo, hy⟩ := item_go R2 sr2 ei
            refine .inr ⟨hgo, fun st' H' => ∃ (ia : List Addr) (sl : LS) (h : LH), Rep K ca ia H' h ∧ RS K ia H' sl st' ∧ SrcR K ia H' src J ∧ WantS K ca ia H' ((run G m).f d tg ib src (i + 1) sl h) D W,
              fun st' H' ⟨ia', sl', h', a, b, c, q⟩ => ⟨m, Nat.lt_succ_self m, Nat.le_of_succ_le hm, ia', sl', h', a, b, c, q⟩, fun x H' yl => ?_⟩
            obtain ⟨g3, R3, r3⟩ := hy x H' yl
            have w4 : WantS K ca ia2 H2 (match bindT tg v sl2 with
              | none => .bad
              | some sl1 => (match (run G m).s d ib sl1 h2 with
                | .nx sl2 h2 => (run G m).f d tg ib src (i + 1) sl2 h2
                | .ct sl2 h2 => (run G m).f d tg ib src (i + 1) sl2 h2
                | .bk sl2 h2 => .nx sl2 h2
                | x => x)) D W := w3
            cases eb : bindT tg v sl2 with
            | none => rw [eb] at w4; exact (show False from w4).elim
            | some sl1 =>
              rw [eb] at w4
              have S3 := S2.grow g3 R2
              have sr3 : SrcR K (ia2 ++ []) H' src J := sr2.stay (g3.hold R2)
              rw [app_nil] at S3 sr3
              refine ⟨ia2, sl2, h2, v, sl1, R3, S3, r3, eb, fun st3 S4 _ => ⟨m, Nat.le_of_succ_le hm, ia2, sl1, h2, R3, S4, ?_⟩⟩
              have w5 : WantS K ca ia2 H2 (match (run G m).s d ib sl1 h2 with
                | .nx sl2 h2 => (run G m).f d tg ib src (i + 1) sl2 h2
                | .ct sl2 h2 => (run G m).f d tg ib src (i + 1) sl2 h2
                | .bk sl2 h2 => .nx sl2 h2
                | x => x) D W := w4
              have w6 := WantS.shift w5 g3
              rw [app_nil] at w6
              cases er : (run G m).s d ib sl1 h2 with
              | bad => rw [er] at w6; exact w6
              | exc c v' sl' h' => rw [er] at w6; exact w6
              | rt v' h' => rw [er] at w6; exact w6
              | bk sl' h' => rw [er] at w6; exact w6
              | ct sl' h' =>
                rw [er] at w6
                exact fun la H4 st4 g4 R4 S5 => ⟨ia2 ++ la, sl', h', R4, S5, sr3.stay (g4.hold R3), WantS.shift w6 g4⟩
              | nx sl' h' =>
                rw [er] at w6
                exact fun la H4 st4 g4 R4 S5 => ⟨ia2 ++ la, sl', h', R4, S5, sr3.stay (g4.hold R3), WantS.shift w6 g4⟩
/-! ### while -/
theorem while_read {n d : Nat} {c : IE} {ib : List IS} {D : Ends} {st : L2.St} {H : Hp} (t : tS K ca W (fun sl h => (run G n).w d c ib sl h) D st H) :
    tWhile (fun st H Q => ∃ m, m ≤ n ∧ tOfB K ca W ((run G m).t d c) st H Q) (fun D st H => ∃ m, m ≤ n ∧ tS K ca W ((run G m).s d ib) D st H) D st H := by
  refine ⟨fun m st H => m ≤ n ∧ tS K ca W (fun sl h => (run G m).w d c ib sl h) D st H, ⟨n, Nat.le_refl n, t⟩, ?_⟩
  rintro m st2 H2 ⟨hm, ia2, sl2, h2, R2, S2, w2⟩
  cases m with
  | zero => exact (show False from w2).elim
  | succ m =>
    have w3 : WantS K ca ia2 H2 (ofRB ((run G m).t d c sl2 h2) sl2 fun x h1 => match x with
      | false => .nx sl2 h1
      | true => (match (run G m).s d ib sl2 h1 with
        | .nx sl2 h2 => (run G m).w d c ib sl2 h2
        | .ct sl2 h2 => (run G m).w d c ib sl2 h2
        | .bk sl2 h2 => .nx sl2 h2
        | x => x)) D W := w2
    refine ⟨m, Nat.le_of_succ_le hm, ia2, sl2, h2, R2, S2, .nil, ?_⟩
    cases e : (run G m).t d c sl2 h2 with
    | bad => rw [e] at w3; exact w3
    | exc cc v h' =>
      rw [e] at w3
      exact fun ka H' d y g R' hd r => w3 ka H' d y st2 g R' hd r (S2.grow g R2)
    | ok b h1 =>
      rw [e] at w3
      intro ka H1 g R1
      cases b with
      | false =>
        rw [if_neg Bool.false_ne_true]
        exact w3 ka H1 st2 g R1 (S2.grow g R2)
      | true =>
        rw [if_pos rfl]
        have w4 : WantS K ca ia2 H2 (match (run G m).s d ib sl2 h1 with
          | .nx sl2 h2 => (run G m).w d c ib sl2 h2
          | .ct sl2 h2 => (run G m).w d c ib sl2 h2
          | .bk sl2 h2 => .nx sl2 h2
          | x => x) D W := w3
        have w5 := WantS.shift w4 g
        refine ⟨tS K ca W (fun sl h => (run G m).w d c ib sl h) D, fun st' H' q => ⟨m, Nat.lt_succ_self m, Nat.le_of_succ_le hm, q⟩, m, Nat.le_of_succ_le hm, ia2 ++ ka, sl2, h1, R1, S2.grow g R2, ?_⟩
        cases er : (run G m).s d ib sl2 h1 with
        | bad => rw [er] at w5; exact w5
        | exc c v' sl' h' => rw [er] at w5; exact w5
        | rt v' h' => rw [er] at w5; exact w5
        | bk sl' h' => rw [er] at w5; exact w5
        | ct sl' h' =>
          rw [er] at w5
          exact fun la H4 st4 g4 R4 S5 => ⟨(ia2 ++ ka) ++ la, sl', h', R4, S5, WantS.shift w5 g4⟩
        | nx sl' h' =>
          rw [er] at w5
          exact fun la H4 st4 g4 R4 S5 => ⟨(ia2 ++ ka) ++ la, sl', h', R4, S5, WantS.shift w5 g4⟩
end
end Mi

set_option Elab.async false
set_option linter.all false
set_option maxRecDepth 100000
set_option maxHeartbeats 1000000
/-! D10: a list comprehension by its reading. -/
namespace Mi
open PySem L2 PyProof.Rows
abbrev W0 : WS := fun _ _ _ _ => False
theorem wipeL_length (sl : LS) : ∀ vs : List Nat, (wipeL sl vs).length = sl.length
  | [] => rfl
  | v :: vs => by unfold wipeL; rw [List.length_set, wipeL_length sl vs]
theorem wipe_at {st : L2.St} {j : Nat} : ∀ {vs : List Nat}, (wipe st vs)[j]? = if j ∈ vs then (if j < st.length then some none else none) else st[j]?
  | [] => by simp [wipe]
  | v :: vs => by
    unfold wipe
    by_cases hv : v = j
    · subst hv
      rw [if_pos List.mem_cons_self]
      by_cases hl : v < (wipe st vs).length
      · rw [List.getElem?_set_self hl, if_pos (by rw [← wipe_length st vs]; exact hl)]
      · rw [List.getElem?_eq_none (by simpa using hl), if_neg (by rw [← wipe_length st vs]; exact hl)]
    · rw [List.getElem?_set_ne hv, wipe_at (vs := vs)]
      by_cases hm : j ∈ vs
      · rw [if_pos hm, if_pos (List.mem_cons_of_mem _ hm)]
      · rw [if_neg hm, if_neg (fun z => by
          rcases List.mem_cons.mp z with z | z
          · exact hv z.symm
          · exact hm z)]
theorem wipeL_at {st : LS} {j : Nat} : ∀ {vs : List Nat}, (wipeL st vs)[j]? = if j ∈ vs then (if j < st.length then some none else none) else st[j]?
  | [] => by simp [wipeL]
  | v :: vs => by
    unfold wipeL
    by_cases hv : v = j
    · subst hv
      rw [if_pos List.mem_cons_self]
      by_cases hl : v < (wipeL st vs).length
      · rw [List.getElem?_set_self hl, if_pos (by rw [← wipeL_length st vs]; exact hl)]
      · rw [List.getElem?_eq_none (by simpa using hl), if_neg (by rw [← wipeL_length st vs]; exact hl)]
    · rw [List.getElem?_set_ne hv, wipeL_at (vs := vs)]
      by_cases hm : j ∈ vs
      · rw [if_pos hm, if_pos (List.mem_cons_of_mem _ hm)]
      · rw [if_neg hm, if_neg (fun z => by
          rcases List.mem_cons.mp z with z | z
          · exact hv z.symm
          · exact hm z)]
theorem RS.wipe {K : PySem.W.Frag} {ia : List Addr} {H : Hp} {sl : LS} {st : L2.St} (r : RS K ia H sl st) (vs : List Nat) : RS K ia H (wipeL sl vs) (wipe st vs) := by
  refine ⟨by rw [wipeL_length, wipe_length, r.len], fun j v e => ?_⟩
  rw [wipeL_at] at e
  by_cases hm : j ∈ vs
  · rw [if_pos hm] at e
    split at e <;> cases e
  · rw [if_neg hm] at e
    obtain ⟨w, e1, q⟩ := r.at_ j v e
    exact ⟨w, by rw [wipe_at, if_neg hm]; exact e1, q⟩
theorem wipe_agr {S vs : List Nat} {st st' : L2.St} (a : Agr S (wipe st vs) st') (h : ∀ i ∈ S, i ∈ vs) : wipe st' vs = wipe st vs := by
  refine List.ext_getElem? fun j => ?_
  rw [wipe_at, wipe_at]
  by_cases hm : j ∈ vs
  · rw [if_pos hm, if_pos hm, a.len, wipe_length]
  · rw [if_neg hm, if_neg hm, a.at_ j fun z => hm (h j z), wipe_at, if_neg hm]
section
variable {K : PySem.W.Frag} {ca : Str → Addr} {W : WS} {G : Prg}
theorem lc_read {n d : Nat} {tg : ITg} {k : Nat} {ifs : List IE} {elt : IE} {own : List Nat} {st : L2.St} {H : Hp} {Q : VK} (mS : M (List Val)) (hown : ∀ i ∈ slots tg, i ∈ own)
    (t : tOf K ca W (fun sl h => (mS sl h).bind fun vs h1 => match mkSrc k vs h1 with
      | some s => (run G n).l d tg ifs elt own s 0 h1.length (wipeL sl own) (h1 ++ [.lst []])
      | none => .bad) st H Q) :
    tLc (tSrc K ca W (srcM k mS)) (gB K ca tg) (fun st H Q => ∃ m, m ≤ n ∧ tOfB K ca W0 (tsIf ((run G m).t d) ifs) st H Q) (fun st H Q => ∃ m, m ≤ n ∧ tOf K ca W0 ((run G m).e d elt) st H Q) own st H Q := by
  obtain ⟨ia, sl, h, R, S, _, w⟩ := t
  refine ⟨ia, sl, h, R, S, ?_⟩
  dsimp only at w
  unfold srcM
  cases e : mS sl h with
  | bad => rw [e] at w; exact w
  | exc c v h' => rw [e] at w; exact w
  | ok vs h1 =>
    rw [e] at w
    have w' : Want K ca ia H (match mkSrc k vs h1 with
      | some s => (run G n).l d tg ifs elt own s 0 h1.length (wipeL sl own) (h1 ++ [.lst []])
      | none => .bad) Q (fun c d H' => W c d st H') := w
    show WantI K ca ia H (match mkSrc k vs h1 with
      | some s => Res.ok s h1
      | none => .bad) _ _
    cases es : mkSrc k vs h1 with
    | none => rw [es] at w'; exact w'
    | some src =>
      rw [es] at w'
      intro ka H1 J g R1 sr D nD
      have RD : Rep K ca (ia ++ ka ++ [D]) (upd H1 D (.lst [])) (h1 ++ [.lst []]) := R1.push nD ⟨[], upd_same, .nil⟩
      have gD : Grow (ia ++ ka) H1 [D] (upd H1 D (.lst [])) := Grow.push nD
      have wD := Want.shift (Want.shift w' g) gD
      have eD : (ia ++ ka ++ [D])[h1.length]? = some D := by
        rw [← R1.len]
        simp
      have SD : RS K (ia ++ ka ++ [D]) (upd H1 D (.lst [])) (wipeL sl own) (wipe st own) := ((S.grow g R).grow gD R1).wipe own
      have sD : SrcR K (ia ++ ka ++ [D]) (upd H1 D (.lst [])) src J := sr.stay (gD.hold R1)
      refine ⟨fun i m H => m ≤ n ∧ ∃ (ia : List Addr) (h : LH), Rep K ca ia H h ∧ RS K ia H (wipeL sl own) (wipe st own) ∧ SrcR K ia H src J ∧ ia[h1.length]? = some D ∧
        Want K ca ia H ((run G m).l d tg ifs elt own src i h1.length (wipeL sl own) h) Q (fun c d H' => W c d st H'), ⟨n, Nat.le_refl n, _, _, RD, SD, sD, eD, wD⟩, ?_⟩
      clear wD SD sD eD RD gD w w' es e
      rintro i m H2 ⟨hm, ia2, h2, R2, S2, sr2, e2, w2⟩
      cases m with
      | zero => exact (show False from w2).elim
      | succ m =>
        have w3 : Want K ca ia2 H2 (match item src i h2 with
          | none => .bad
          | some none => .ok (.loc h1.length) h2
          | some (some v) => (match bindT tg v (wipeL sl own) with
            | none => .bad
            | some sl1 => (calm (tsIf ((run G m).t d) ifs sl1 h2)).bind fun b h3 => match b with
              | false => (run G m).l d tg ifs elt own src (i + 1) h1.length (wipeL sl own) h3
              | true => (calm ((run G m).e d elt sl1 h3)).bind fun y h4 => match h4[h1.length]? with
                | some (.lst acc) => (match decide (acc.length < sizeLine) with
                  | true => (run G m).l d tg ifs elt own src (i + 1) h1.length (wipeL sl own) (h4.set h1.length (.lst (acc ++ [y])))
                  | false => .bad)
                | _ => .bad)) Q (fun c d H' => W c d st H') := w2
        cases ei : item src i h2 with
        | none => rw [ei] at w3; exact (show False from w3).elim
        | some o =>
          cases o with
          | none =>
            rw [ei] at w3
            exact .inl ⟨item_stop R2 sr2 ei, Want.now w3 R2 (.loc e2)⟩
          | some v =>
            rw [ei] at w3
            obtain ⟨hgo, hy⟩ := item_go R2 sr2 ei
            refine .inr ⟨hgo, fun H' => ∃ (ia : List Addr) (h : LH), Rep K ca ia H' h ∧ RS K ia H' (wipeL sl own) (wipe st own) ∧ SrcR K ia H' src J ∧ ia[h1.length]? = some D ∧
              Want K ca ia H' ((run G m).l d tg ifs elt own src (i + 1) h1.length (wipeL sl own) h) Q (fun c d H' => W c d st H'),
              fun H' ⟨ia', h', a, b, c, z, q⟩ => ⟨m, Nat.lt_succ_self m, Nat.le_of_succ_le hm, ia', h', a, b, c, z, q⟩, fun x H' yl => ?_⟩
            obtain ⟨g3, R3, r3⟩ := hy x H' yl
            have S3 := S2.grow g3 R2
            have sr3 : SrcR K (ia2 ++ []) H' src J := sr2.stay (g3.hold R2)
            rw [app_nil] at S3 sr3
            cases eb : bindT tg v (wipeL sl own) with
            | none =>
              have w4 : Want K ca ia2 H2 (match bindT tg v (wipeL sl own) with
                | none => .bad
                | some sl1 => (calm (tsIf ((run G m).t d) ifs sl1 h2)).bind fun b h3 => match b with
                  | false => (run G m).l d tg ifs elt own src (i + 1) h1.length (wipeL sl own) h3
                  | true => (calm ((run G m).e d elt sl1 h3)).bind fun y h4 => match h4[h1.length]? with
                    | some (.lst acc) => (match decide (acc.length < sizeLine) with
                      | true => (run G m).l d tg ifs elt own src (i + 1) h1.length (wipeL sl own) (h4.set h1.length (.lst (acc ++ [y])))
                      | false => .bad)
                    | _ => .bad) Q (fun c d H' => W c d st H') := w3
              rw [eb] at w4
              exact (show False from w4).elim
            | some sl1 =>
              have w4 : Want K ca ia2 H2 (match bindT tg v (wipeL sl own) with
                | none => .bad
                | some sl1 => (calm (tsIf ((run G m).t d) ifs sl1 h2)).bind fun b h3 => match b with
                  | false => (run G m).l d tg ifs elt own src (i + 1) h1.length (wipeL sl own) h3
                  | true => (calm ((run G m).e d elt sl1 h3)).bind fun y h4 => match h4[h1.length]? with
                    | some (.lst acc) => (match decide (acc.length < sizeLine) with
                      | true => (run G m).l d tg ifs elt own src (i + 1) h1.length (wipeL sl own) (h4.set h1.length (.lst (acc ++ [y])))
                      | false => .bad)
                    | _ => .bad) Q (fun c d H' => W c d st H') := w3
              rw [eb] at w4
              refine ⟨ia2, wipeL sl own, h2, v, sl1, R3, S3, r3, eb, fun st3 S4 ag => ⟨wipe_agr ag hown, m, Nat.le_of_succ_le hm, ia2, sl1, h2, R3, S4, .nil, ?_⟩⟩
              have w5 := Want.shift w4 g3
              rw [app_nil] at w5
              dsimp only at w5
              have S0 : RS K ia2 H' (wipeL sl own) (wipe st own) := S3
              cases et : tsIf ((run G m).t d) ifs sl1 h2 with
              | bad => rw [et] at w5; exact w5
              | exc c v' h' => rw [et] at w5; exact (show False from w5).elim
              | ok b h3 =>
                rw [et] at w5
                intro la H4 g4 R4
                have w6 := Want.shift w5 g4
                have S5 := S4.grow g4 R3
                have S6 := S0.grow g4 R3
                have sr4 : SrcR K (ia2 ++ la) H4 src J := sr3.stay (g4.hold R3)
                have e4 : (ia2 ++ la)[h1.length]? = some D := by
                  rw [List.getElem?_append_left (List.getElem?_eq_some_iff.mp e2).1]
                  exact e2
                cases b with
                | false =>
                  rw [if_neg Bool.false_ne_true]
                  exact ⟨ia2 ++ la, h3, R4, S6, sr4, e4, w6⟩
                | true =>
                  rw [if_pos rfl]
                  refine ⟨m, Nat.le_of_succ_le hm, ia2 ++ la, sl1, h3, R4, S5, .nil, ?_⟩
                  have w7 : Want K ca (ia2 ++ la) H4 ((calm ((run G m).e d elt sl1 h3)).bind fun y h4 => match h4[h1.length]? with
                    | some (.lst acc) => (match decide (acc.length < sizeLine) with
                      | true => (run G m).l d tg ifs elt own src (i + 1) h1.length (wipeL sl own) (h4.set h1.length (.lst (acc ++ [y])))
                      | false => .bad)
                    | _ => .bad) Q (fun c d H' => W c d st H') := w6
                  cases ee : (run G m).e d elt sl1 h3 with
                  | bad => rw [ee] at w7; exact w7
                  | exc c v' h' => rw [ee] at w7; exact (show False from w7).elim
                  | ok y h4 =>
                    rw [ee] at w7
                    intro ma H5 yv g5 R5 ry
                    have w8 : Want K ca (ia2 ++ la) H4 (match h4[h1.length]? with
                      | some (.lst acc) => (match decide (acc.length < sizeLine) with
                        | true => (run G m).l d tg ifs elt own src (i + 1) h1.length (wipeL sl own) (h4.set h1.length (.lst (acc ++ [y])))
                        | false => .bad)
                      | _ => .bad) Q (fun c d H' => W c d st H') := w7
                    have w9 := Want.shift w8 g5
                    have S7 := S6.grow g5 R4
                    have sr5 : SrcR K (ia2 ++ la ++ ma) H5 src J := sr4.stay (g5.hold R4)
                    have e5 : (ia2 ++ la ++ ma)[h1.length]? = some D := by
                      rw [List.getElem?_append_left (List.getElem?_eq_some_iff.mp e4).1]
                      exact e4
                    split at w9
                    · rename_i acc ea
                      obtain ⟨ac, hac, rac⟩ := R5.ob _ _ _ ea e5
                      split at w9
                      · rename_i hd
                        have hd := of_decide_eq_true hd
                        have k : Hold H5 (upd H5 D (.lst (ac ++ [yv]))) := Hold.set hac (fun _ z => nomatch z) (fun _ _ z => nomatch z)
                        have gE : Grow (ia2 ++ la ++ ma) H5 [] (upd H5 D (.lst (ac ++ [yv]))) := Grow.set e5 hac
                        refine ⟨ac, hac, by rw [← rac.len]; exact hd, ia2 ++ la ++ ma, h4.set h1.length (.lst (acc ++ [y])), ?_, ?_, ?_, e5, ?_⟩
                        · have q := RVs.stay (ka := []) k (rac.app (.cons ry .nil))
                          rw [app_nil] at q
                          exact R5.set e5 k ⟨_, upd_same, q⟩
                        · have q := S7.grow gE R5
                          rw [app_nil] at q
                          exact q
                        · have q : SrcR K (ia2 ++ la ++ ma ++ []) _ src J := sr5.stay (gE.hold R5)
                          rw [app_nil] at q
                          exact q
                        · have q := Want.shift w9 gE
                          rw [app_nil] at q
                          exact q
                      · exact (show False from w9).elim
                    · exact (show False from w9).elim
end
end Mi

set_option Elab.async false
set_option linter.all false
set_option maxRecDepth 100000
set_option maxHeartbeats 1000000
/-! D11: from the row's text to the evaluator's. -/
namespace Mi
open PySem L2
/-- what a module's name stands for -/
inductive GV where
  | val (v : Val)
  | fn (i : Nat)
  | blt
  | err
abbrev Glo := List (Str × GV)
def visB (sc : Scope) (x : Str) : Bool := match sc.names.lookup x with
  | some .local => true
  | some .cell => true
  | some .free => true
  | _ => false
def locB (sc : Scope) (x : Str) : Bool := match sc.names.lookup x with
  | some .local => true
  | some .cell => true
  | _ => false
def gloB (sc : Scope) (x : Str) : Bool := match sc.names.lookup x with
  | some .globalImplicit => true
  | _ => false
def okN (x : Str) : Bool := !(x == ("__debug__" : Str)) && !(x == ("__classdict__" : Str)) && !decide (x = ("__name__" : Str))
def idx (N : List Str) (x : Str) : Option Nat := N.findIdx? fun y => decide (y = x)
def noStar : Expr → Bool
  | .Starred _ _ => false
  | _ => true
def mapX (f : Expr → Option IE) : List Expr → Option (List IE)
  | [] => some []
  | e :: es => match noStar e, f e, mapX f es with
    | true, some i, some is => some (i :: is)
    | _, _, _ => none
def biOf (x : Str) (n : Nat) : Option Bi :=
  if x = ("len" : Str) ∧ n = 1 then some .len else if x = ("abs" : Str) ∧ n = 1 then some .abs else if x = ("int" : Str) ∧ n = 1 then some .int
  else if x = ("min" : Str) ∧ n = 2 then some .min2 else if x = ("max" : Str) ∧ n = 2 then some .max2 else if x = ("all" : Str) ∧ n = 1 then some .all
  else if x = ("any" : Str) ∧ n = 1 then some .any else if x = ("list" : Str) ∧ n = 1 then some .list else if x = ("tuple" : Str) ∧ n = 1 then some .tuple else none
def mtOf (x : Str) (n : Nat) : Option Mt :=
  if x = ("append" : Str) ∧ n = 1 then some .append else if x = ("extend" : Str) ∧ n = 1 then some .extend else if x = ("pop" : Str) ∧ n = 1 then some .popAt else none
/-- not the call of a name without arguments (super()) -/
def plainO : Expr → Bool
  | .Call (.Name _ _) [] [] _ => false
  | _ => true
def noSlice : Expr → Bool
  | .Slice _ _ _ _ => false
  | _ => true
def noSet : Expr → Bool
  | .Set _ _ _ => false
  | _ => true
def noComp : Expr → Bool
  | .ListComp _ _ _ _ => false
  | .SetComp _ _ _ _ => false
  | .DictComp _ _ _ _ _ => false
  | _ => true
def isTupE : Expr → Bool
  | .Tuple _ _ _ => true
  | _ => false
def isBlt (g : Glo) (sc : Scope) (x : Str) : Bool := gloB sc x && (match g.lookup x with | some .blt => true | _ => false)
def keyCs : List (Option Expr) → Option (List Str)
  | [] => some []
  | some (.Constant (.str k) _ _) :: r => (keyCs r).map (k :: ·)
  | _ :: _ => none
/-- the built-in types that isinstance is asked for -/
def tyName (y : Str) : Option String := if y = ("int" : Str) then some "int" else if y = ("bool" : Str) then some "bool" else if y = ("str" : Str) then some "str" else if y = ("tuple" : Str) then some "tuple"
  else if y = ("list" : Str) then some "list" else if y = ("dict" : Str) then some "dict" else if y = ("ValueError" : Str) then some "ValueError" else none
def clOf (g : Glo) (sc : Scope) : Expr → Option ClR
  | .Name y _ => if okN y && gloB sc y then (match g.lookup y with
    | some .err => some (.own y)
    | some .blt => (tyName y).map .ty
    | _ => none) else none
  | _ => none
/-- the names of a comprehension's own, with their slots -/
def ownOf (N : List Str) : List (Str × NameKind) → List (Str × Nat)
  | [] => []
  | (x, k) :: r => match k with
    | .local => (match idx N x with | some i => (x, i) :: ownOf N r | none => ownOf N r)
    | .cell => (match idx N x with | some i => (x, i) :: ownOf N r | none => ownOf N r)
    | _ => ownOf N r
mutual
def trG (N : List Str) (sc : Scope) : Nat → Expr → Option ITg
  | 0, _ => none
  | m + 1, e => match e with
    | .Name x _ => if locB sc x then (idx N x).map .nm else none
    | .Tuple es _ _ => (trGs N sc m es).map .tp
    | _ => none
def trGs (N : List Str) (sc : Scope) : Nat → List Expr → Option (List ITg)
  | _, [] => some []
  | 0, _ :: _ => none
  | m + 1, e :: es => match noStar e, trG N sc m e, trGs N sc m es with
    | true, some t, some ts => some (t :: ts)
    | _, _, _ => none
end
/-- what a loop walks -/
def trI (g : Glo) (sc : Scope) (f : Expr → Option IE) (tg iter : Expr) : Option (Nat × List IE) := match iter with
  | .Call (.Name x _) [a] [] _ =>
    if x = ("range" : Str) then (if isBlt g sc x && noStar a then (f a).map fun i => (1, [i]) else none)
    else if x = ("enumerate" : Str) then (if isBlt g sc x && noStar a && isTupE tg then (f a).map fun i => (3, [i]) else none)
    else (f iter).map fun i => (0, [i])
  | .Call (.Name x _) [a, b] [] _ =>
    if x = ("range" : Str) then (if isBlt g sc x && noStar a && noStar b then (match f a, f b with | some i, some j => some (2, [i, j]) | _, _ => none) else none)
    else if x = ("zip" : Str) then (if isBlt g sc x && noStar a && noStar b && isTupE tg then (match f a, f b with | some i, some j => some (4, [i, j]) | _, _ => none) else none)
    else (f iter).map fun i => (0, [i])
  | e => if noSet e then (f e).map fun i => (0, [i]) else none
def trE (g : Glo) (N : List Str) : Nat → Scope → Expr → Option IE
  | 0, _, _ => none
  | m + 1, sc, e => match e with
    | .Constant c _ _ => (match c with
      | .int i => some (.cst (.int i))
      | .str x => some (.cst (.str x))
      | .bool b => some (.cst (.bl b))
      | .none => some (.cst .non)
      | _ => none)
    | .Name x _ => if okN x then (if visB sc x then (idx N x).map .var else if gloB sc x then (match g.lookup x with
      | some (.val v) => some (.cst v)
      | _ => none) else none) else none
    | .BinOp a op b _ => (match trE g N m sc a, trE g N m sc b with
      | some i, some j => some (.bin op i j)
      | _, _ => none)
    | .UnaryOp .USub a _ => (trE g N m sc a).map .neg
    | .UnaryOp .Not a _ => (trE g N m sc a).map .nt
    | .BoolOp .And es _ => (mapX (trE g N m sc) es).map .an
    | .BoolOp .Or es _ => (mapX (trE g N m sc) es).map .orr
    | .Compare a [op] [b] _ => (match behindInMarks op b, trE g N m sc a, trE g N m sc b with
      | false, some i, some j => some (.cmp op i j)
      | _, _, _ => none)
    | .Compare a [op, op'] [b, c] _ => (match lastMarks [op, op'] [b, c], trE g N m sc a, trE g N m sc b, trE g N m sc c with
      | false, some i, some j, some k => some (.chn op op' i j k)
      | _, _, _, _ => none)
    | .IfExp c a b _ => (match trE g N m sc c, trE g N m sc a, trE g N m sc b with
      | some i, some j, some k => some (.ife i j k)
      | _, _, _ => none)
    | .Tuple es _ _ => (mapX (trE g N m sc) es).map .tp
    | .List es _ => (mapX (trE g N m sc) es).map .ls
    | .Subscript a s _ => (match s with
      | .Slice lo hi none _ => (match trE g N m sc a, (match lo with | none => some none | some x => (trE g N m sc x).map some), (match hi with | none => some none | some x => (trE g N m sc x).map some) with
        | some i, some l, some u => some (.sl i l u)
        | _, _, _ => none)
      | _ => (match noSlice s, trE g N m sc a, trE g N m sc s with
        | true, some i, some j => some (.ix i j)
        | _, _, _ => none))
    | .Call (.Name x p) args [] _ => (match okN x && gloB sc x with
      | true => (match g.lookup x with
        | some (.fn k) => (mapX (trE g N m sc) args).map (.cal k)
        | some .err => (match args with
          | [a] => (match noStar a, trE g N m sc a with
            | true, some i => some (.mkE x i)
            | _, _ => none)
          | _ => none)
        | some .blt => (match (if x = ("isinstance" : Str) then (match args with
            | [a, ce] => (match noStar a, trE g N m sc a, clOf g sc ce with
              | true, some i, some c => some (IE.isi i c)
              | _, _, _ => none)
            | _ => none) else if x = ("repr" : Str) then (match args with
            | [a] => (match noStar a, trE g N m sc a with
              | true, some i => some (IE.rpr i)
              | _, _ => none)
            | _ => none) else none) with
          | some i => some i
          | none => (match (if x = ("list" : Str) then (match args with
            | [.Call (.Name y _) [a] [] _] => if y = ("range" : Str) ∧ isBlt g sc y = true ∧ noStar a = true then some a else none
            | _ => none) else none) with
          | some a => (trE g N m sc a).map .lrg
          | none => (match biOf x args.length, mapX (trE g N m sc) args with
            | some b, some is => some (.blt b is)
            | _, _ => none)))
        | _ => none)
      | false => none)
    | .Attribute a x _ => (match decide (x = ("value" : Str)) && plainO a, trE g N m sc a with
      | true, some i => some (.fld i)
      | _, _ => none)
    | .Dict keys vals _ => (match keyCs keys, mapX (trE g N m sc) vals, decide (keys.length = vals.length) && decide (keys.length ≤ 15) with
      | some ks, some is, true => some (.dsp ks is)
      | _, _, _ => none)
    | .Call (.Attribute o x ap) args [] cp => (match mtOf x args.length, plainO o && (ap.endLine == cp.line), trE g N m sc o, mapX (trE g N m sc) args with
      | some mt, true, some i, some is => some (.mth mt i is)
      | _, _, _, _ => none)
    | .ListComp elt [⟨tg, iter, ifs, 0⟩] scope _ =>
      let own := ownOf N scope.names
      let sc' := relS scope sc
      (match blkC N sc scope own && noSet iter && decide (ifs.length ≤ 1), trI g sc (trE g N m sc) tg iter, trG N scope m tg, mapX (trE g N m sc') ifs, trE g N m sc' elt with
      | true, some (k, es), some t, some is, some i => if (slots t).all (fun j => (own.map (·.2)).contains j) then some (.lc t k es is i (own.map (·.2))) else none
      | _, _, _, _, _ => none)
    | _ => none
/-- are the stores of a, b = x, y exchanged -/
def swOk (sc : Scope) (ts vs : List Expr) : Option Bool :=
  let line := (ts.head?.map (·.pos.line)).getD 0
  let names := ts.filterMap fun
    | .Name id pos => if sc.names.lookup id == some .local && pos.line == line then some id else none
    | _ => none
  if !(ts.length == 2 || ts.length == 3) || vs.length != ts.length then some false
  else if vs.any fun | .Starred .. => true | _ => false then some false
  else if names.length != ts.length || names.eraseDups.length != names.length then some false
  else if vs.all (foldedForSure 8) then some false
  else if vs.all (constantsAlone 8) then none else some true
/-- is the store of y = [..] among the comprehension's own -/
def lcSw (sc scope : Scope) (y : Str) (py pos : Pos) : Bool := (sc.names.lookup y == some .local) && py.line == pos.line && !(scope.names.any fun (n, k) => n == y && (k == .local || k == .cell))
def asgOk (sc : Scope) (tg e : Expr) : Bool := match e with
  | .ListComp _ _ _ _ => (match tg with
    | .Name _ _ => true
    | _ => false)
  | .SetComp _ _ _ _ => false
  | .DictComp _ _ _ _ _ => false
  | .Tuple vs _ _ => (match tg with
    | .Tuple ts _ _ => (match swOk sc ts vs with
      | some false => true
      | some true => decide (ts.length = 2)
      | none => false)
    | _ => true)
  | _ => true
def trS1 (g : Glo) (N : List Str) (f : List Stmt → Option (List IS)) (m : Nat) (sc : Scope) (st : Stmt) : Option IS := match st with
  | .Expr (.Constant (.str _) _ _) _ => some .pas
  | .Expr e _ => (match noComp e, trE g N m sc e with
    | true, some i => some (.ex i)
    | _, _ => none)
  | .Assign [tg] e pos => (match tg with
    | .Subscript o i _ => (match noComp e && noSlice i, trE g N m sc o, trE g N m sc i, trE g N m sc e with
      | true, some a, some b, some c => some (.sub a b c)
      | _, _, _, _ => none)
    | _ => (match trG N sc m tg, trE g N m sc e, asgOk sc tg e with
      | some t, some i, true => some (.asg t i)
      | _, _, _ => none))
  | .Return none _ => some (.ret none)
  | .Return (some e) _ => (trE g N m sc e).map fun i => .ret (some i)
  | .If c a b _ => (match trE g N m sc c, f a, f b with
    | some i, some x, some y => some (.iff i x y)
    | _, _, _ => none)
  | .For tg iter body [] _ => (match noSet iter, trI g sc (trE g N m sc) tg iter, trG N sc m tg, f body with
    | true, some (k, es), some t, some b => some (.for_ t k es b)
    | _, _, _, _ => none)
  | .While c body [] _ => (match trE g N m sc c, f body with
    | some i, some b => some (.whl i b)
    | _, _ => none)
  | .Break _ => some .brk
  | .Continue _ => some .cnt
  | .Pass _ => some .pas
  | .Raise _ _ _ => some .nev
  | _ => none
def trS (g : Glo) (N : List Str) : Nat → Scope → List Stmt → Option (List IS)
  | _, _, [] => some []
  | 0, _, _ :: _ => none
  | m + 1, sc, st :: rest => (match trS1 g N (trS g N m sc) m sc st, trS g N m sc rest with
    | some i, some is => some (i :: is)
    | _, _ => none)
end Mi

set_option Elab.async false
set_option linter.all false
set_option maxRecDepth 100000
set_option maxHeartbeats 1000000
/-! D12: each construct, by the runs of its parts. -/
namespace Mi
open PySem L2 PyProof.Rows
section
variable {X : Cx} {ca : Str → Addr} {W : WS} {a b c e : Expr} {es : List Expr} {pos : Pos} {ma mb mc : M Val}
/-- two values in hand -/
theorem two {f : Val → Val → LH → Res Val} {v w : Val} {x y : V} {st : L2.St} {H : Hp} {Q : VK} (t : tC X.K ca W [w, v] [y, x] (fun sl h => f v w h) st H Q) : rV2 X.K ca f x y H Q := by
  obtain ⟨ia, sl, h, R, S, r, q⟩ := t
  cases r with
  | cons ry r =>
    cases r with
    | cons rx _ => exact ⟨ia, h, v, w, _, R, rx, ry, q⟩
theorem opv (op : Operator) : OpR X (binaryOp op) (rV2 X.K ca (vBin op)) := by
  cases op with
  | Add => exact ov_add
  | Sub => exact ov_sub
  | Mult => exact ov_mul
  | FloorDiv => exact ov_div
  | Mod => exact ov_mod
  | Pow => exact ov_pow
  | _ =>
    intro pins s st H x y v u Q I rx ry ⟨ia, h, a, b, E, R, ra, rb, w⟩
    exact (show False from w).elim
theorem cpv (hu : X.A.units + 65 < cLine) (op : CmpOp) : OpR X (compareOp op) (rV2 X.K ca (vCmp op)) := by
  cases op with
  | Eq => exact ov_eq (by omega)
  | NotEq => exact ov_ne (by omega)
  | Lt => exact ov_lt
  | LtE => exact ov_le
  | Gt => exact ov_gt
  | GtE => exact ov_ge
  | Is => exact ov_is
  | IsNot => exact ov_isn
  | In => exact ov_in hu
  | NotIn => exact ov_nin hu
theorem d_bin {op : Operator} (ha : PE X a (tOf X.K ca W ma)) (hb : PE X b (tOf X.K ca W mb)) :
    PE X (.BinOp a op b pos) (tOf X.K ca W (fun sl h => (ma sl h).bind fun v h1 => (mb sl h1).bind fun w h2 => vBin op v w h2)) := by
  refine pe_imp (pe_op (opv (ca := ca) op) ha hb) fun st H Q t => ?_
  refine (tC.step (f := fun v sl h1 => (mb sl h1).bind fun w h2 => vBin op v w h2) t).mono fun x H1 ⟨v, t1⟩ => ?_
  refine (tC.step (f := fun w sl h2 => vBin op v w h2) t1).mono fun y H2 ⟨w, t2⟩ => two t2
theorem d_cmp {op : CmpOp} (hu : X.A.units + 65 < cLine) (hm : behindInMarks op b = false) (ha : PE X a (tOf X.K ca W ma)) (hb : PE X b (tOf X.K ca W mb)) :
    PE X (.Compare a [op] [b] pos) (tOf X.K ca W (fun sl h => (ma sl h).bind fun v h1 => (mb sl h1).bind fun w h2 => vCmp op v w h2)) := by
  refine pe_imp (pe_cmpR (cpv (ca := ca) hu op) ha hb hm) fun st H Q t => ?_
  refine (tC.step (f := fun v sl h1 => (mb sl h1).bind fun w h2 => vCmp op v w h2) t).mono fun x H1 ⟨v, t1⟩ => ?_
  refine (tC.step (f := fun w sl h2 => vCmp op v w h2) t1).mono fun y H2 ⟨w, t2⟩ => two t2
theorem d_ix (hu : X.A.units + 1 < cLine) (hs : noSlice b = true) (ha : PE X a (tOf X.K ca W ma)) (hb : PE X b (tOf X.K ca W mb)) :
    PE X (.Subscript a b pos) (tOf X.K ca W (fun sl h => (ma sl h).bind fun v h1 => (mb sl h1).bind fun w h2 => vIx v w h2)) := by
  refine pe_imp (pe_ix (iv_ix (ca := ca) hu) ha hb ?_) fun st H Q t => ?_
  · intro o i
    cases b <;> first | rfl | cases hs
  · refine (tC.step (f := fun v sl h1 => (mb sl h1).bind fun w h2 => vIx v w h2) t).mono fun x H1 ⟨v, t1⟩ => ?_
    refine (tC.step (f := fun w sl h2 => vIx v w h2) t1).mono fun y H2 ⟨w, t2⟩ => two t2
theorem d_neg (ha : PE X a (tOf X.K ca W ma)) : PE X (.UnaryOp .USub a pos) (tOf X.K ca W (fun sl h => (ma sl h).bind fun v h1 => vNeg v h1)) := by
  refine pe_imp (pe_un (uv_neg (ca := ca)) ha) fun st H Q t => ?_
  refine (tC.step (f := fun v sl h1 => vNeg v h1) t).mono fun x H1 ⟨v, t1⟩ => ?_
  obtain ⟨ia, sl, h, R, S, r, q⟩ := t1
  cases r with
  | cons rx _ => exact ⟨ia, h, v, _, R, rx, q⟩
theorem d_nt (ha : PE X a (tOf X.K ca W ma)) : PE X (.UnaryOp .Not a pos) (tOf X.K ca W (fun sl h => (ma sl h).bind fun v h1 => match v with
    | .bl b => .ok (.bl (!b)) h1
    | _ => .bad)) := by
  refine pe_imp (pe_not ha) fun st H Q t => ?_
  refine (tC.step (f := fun v sl h1 => match v with
    | .bl b => .ok (.bl (!b)) h1
    | _ => .bad) t).mono fun x H1 ⟨v, t1⟩ => ?_
  obtain ⟨ia, sl, h, R, S, r, q⟩ := t1
  cases r with
  | cons rx _ =>
    dsimp only at q
    split at q
    · cases rx
      exact ⟨_, rfl, q.now R (.bl _)⟩
    · exact (show False from q).elim
theorem d_ife {mt : M Bool} (hc : PT X c (tOfB X.K ca W mt)) (ha : PE X a (tOf X.K ca W ma)) (hb : PE X b (tOf X.K ca W mb)) : PE X (.IfExp c a b pos) (tOf X.K ca W (fun sl h => (mt sl h).bind fun x h1 => match x with
    | true => ma sl h1
    | false => mb sl h1)) := by
  refine pe_imp (pe_ifExp hc ha hb) fun st H Q t => ?_
  obtain ⟨ia, sl, h, R, S, r, q⟩ := tC.stepB (f := fun x sl h1 => match x with
    | true => ma sl h1
    | false => mb sl h1) t
  refine ⟨ia, sl, h, R, S, r, ?_⟩
  cases e : mt sl h with
  | bad => rw [e] at q; exact q
  | exc c v h' => rw [e] at q; exact q
  | ok x h1 =>
    rw [e] at q
    intro ka H' g R'
    have z := q ka H' g R'
    cases x with
    | true => rw [if_pos rfl]; exact z
    | false => rw [if_neg Bool.false_ne_true]; exact z
/-! ### lists of expressions -/
theorem d_nil : PA X [] (tOfL X.K ca W (fun _ h => .ok [] h)) := pa_imp pa_nil fun st H Q t => by
  obtain ⟨ia, sl, h, R, S, r, q⟩ := t
  exact WantL.now q R .nil
theorem star_cons {e : Expr} {es : List Expr} (hs : noStar e = true) : starEach (e :: es) X.env = (false, eval e X.env) :: starEach es X.env := by
  cases e <;> first | rfl | cases hs
theorem d_cons {ml : M (List Val)} (hs : noStar e = true) (he : PE X e (tOf X.K ca W ma)) (hes : PA X es (tOfL X.K ca W ml)) :
    PA X (e :: es) (tOfL X.K ca W (fun sl h => (ma sl h).bind fun v h1 => (ml sl h1).bind fun vs h2 => .ok (v :: vs) h2)) := by
  refine pa_imp (pa_cons he hes (star_cons hs)) fun st H Q t => ?_
  refine (tCL.step (f := fun v sl h1 => (ml sl h1).bind fun vs h2 => .ok (v :: vs) h2) t).mono fun x H1 ⟨v, t1⟩ => ?_
  obtain ⟨ia, sl, h, R, S, r, q⟩ := tCL.stepL (f := fun vs sl h2 => .ok (v :: vs) h2) t1
  refine ⟨ia, sl, h, R, S, r, ?_⟩
  cases e' : ml sl h with
  | bad => rw [e'] at q; exact q
  | exc c v h' => rw [e'] at q; exact q
  | ok vs h1 =>
    rw [e'] at q
    intro ka H' ys g R' r'
    obtain ⟨ws, t2, hl⟩ := q ka H' ys g R' r'
    obtain ⟨ia2, sl2, h2, R2, S2, r2, q2⟩ := t2
    obtain ⟨z1, z2⟩ : RVs X.K ia2 H' ws ys ∧ RVs X.K ia2 H' [v] [x] := by
      have sp : ∀ {a b : List Val} {c d : List V}, a.length = c.length → RVs X.K ia2 H' (a ++ b) (c ++ d) → RVs X.K ia2 H' a c ∧ RVs X.K ia2 H' b d := by
        intro a
        induction a with
        | nil =>
          intro b c d hl r
          cases c with
          | nil => exact ⟨.nil, r⟩
          | cons _ _ => cases hl
        | cons x a ih =>
          intro b c d hl r
          cases c with
          | nil => cases hl
          | cons y c =>
            cases r with
            | cons r1 r2 =>
              obtain ⟨q1, q2⟩ := ih (by simpa using hl) r2
              exact ⟨.cons r1 q1, q2⟩
      exact sp hl r2
    cases z2 with
    | cons z2 _ => exact WantL.now q2 R2 (.cons z2 z1)
theorem d_list {f : Expr → Option IE} {ev : IE → LS → LH → Res Val} (hf : ∀ e ie, f e = some ie → PE X e (tOf X.K ca W (ev ie))) : ∀ {es : List Expr} {is : List IE}, mapX f es = some is → PA X es (tOfL X.K ca W (evL ev is))
  | [], is, h => by
    cases h
    exact d_nil
  | e :: es, is, h => by
    unfold mapX at h
    split at h
    · rename_i i js e1 e2 e3
      cases h
      exact d_cons e1 (hf e i e2) (d_list hf e3)
    · cases h
theorem mapX_star {f : Expr → Option IE} : ∀ {es : List Expr} {is : List IE}, mapX f es = some is → es.length = is.length ∧ ∀ e ∈ es, noStar e = true
  | [], is, h => by cases h; exact ⟨rfl, fun _ z => nomatch z⟩
  | e :: es, is, h => by
    unfold mapX at h
    split at h
    · rename_i i js e1 e2 e3
      cases h
      obtain ⟨l, n⟩ := mapX_star e3
      refine ⟨by simp [l], fun x hx => ?_⟩
      rcases List.mem_cons.mp hx with rfl | hx
      · exact e1
      · exact n x hx
    · cases h
theorem star_none {pos : Pos} : ∀ {es : List Expr}, (∀ e ∈ es, noStar e = true) → (backTo pos (starEach es X.env)).any (·.1) = false
  | [], _ => rfl
  | e :: es, h => by
    rw [star_cons (h e List.mem_cons_self)]
    show (false || (backTo pos (starEach es X.env)).any (·.1)) = false
    rw [star_none fun x hx => h x (List.mem_cons_of_mem _ hx)]
    rfl
theorem d_tp {x1 : Nat} {ml : M (List Val)} (h : PA X es (tOfL X.K ca W ml)) : PE X (.Tuple es x1 pos) (tOf X.K ca W (fun sl h => (ml sl h).bind fun vs h1 => chk (decide (vs.length ≤ sizeLine)) (.ok (.tup vs) h1))) := by
  refine pe_imp (pe_tup h) fun st H Q t => ?_
  obtain ⟨ia, sl, h, R, S, r, q⟩ := tC.stepL (f := fun vs sl h1 => chk (decide (vs.length ≤ sizeLine)) (.ok (.tup vs) h1)) t
  refine ⟨ia, sl, h, R, S, r, ?_⟩
  cases e' : ml sl h with
  | bad => rw [e'] at q; exact q
  | exc c v h' => rw [e'] at q; exact q
  | ok vs h1 =>
    rw [e'] at q
    intro ka H' ys g R' r'
    obtain ⟨ws, ⟨ia2, sl2, h2, R2, S2, r2, q2⟩, hl⟩ := q ka H' ys g R' r'
    rw [List.append_nil, List.append_nil] at r2
    obtain ⟨c, q2⟩ := chk_ok q2
    exact ⟨by rw [← hl]; exact of_decide_eq_true c, q2.newT R2 r2⟩
theorem d_ls {ml : M (List Val)} (h : PA X es (tOfL X.K ca W ml)) : PE X (.List es pos) (tOf X.K ca W (fun sl h => (ml sl h).bind fun vs h1 => chk (decide (vs.length ≤ sizeLine)) (newL vs h1))) := by
  refine pe_imp (pe_lst h) fun st H Q t => ?_
  obtain ⟨ia, sl, h, R, S, r, q⟩ := tC.stepL (f := fun vs sl h1 => chk (decide (vs.length ≤ sizeLine)) (newL vs h1)) t
  refine ⟨ia, sl, h, R, S, r, ?_⟩
  cases e' : ml sl h with
  | bad => rw [e'] at q; exact q
  | exc c v h' => rw [e'] at q; exact q
  | ok vs h1 =>
    rw [e'] at q
    intro ka H' ys g R' r'
    obtain ⟨ws, ⟨ia2, sl2, h2, R2, S2, r2, q2⟩, hl⟩ := q ka H' ys g R' r'
    rw [List.append_nil, List.append_nil] at r2
    obtain ⟨c, q2⟩ := chk_ok q2
    exact ⟨by rw [← hl]; exact of_decide_eq_true c, q2.newL R2 r2⟩
/-- values in hand, then a call of them -/
theorem lst_call {ml : M (List Val)} {f : List Val → LH → Res Val} {st : L2.St} {H : Hp} {Q : VK} (t : tOf X.K ca W (fun sl h => (ml sl h).bind fun vs h1 => f vs h1) st H Q) :
    tOfL X.K ca W ml st H (fun ys H1 => ∃ (ia : List Addr) (h : LH) (vs : List Val), Rep X.K ca ia H1 h ∧ RVs X.K ia H1 vs ys ∧ Want X.K ca ia H1 (f vs h) Q (fun c d H' => W c d st H')) := by
  obtain ⟨ia, sl, h, R, S, r, q⟩ := tC.stepL (f := fun vs sl h1 => f vs h1) t
  refine ⟨ia, sl, h, R, S, r, ?_⟩
  cases e' : ml sl h with
  | bad => rw [e'] at q; exact q
  | exc c v h' => rw [e'] at q; exact q
  | ok vs h1 =>
    rw [e'] at q
    intro ka H' ys g R' r'
    obtain ⟨ws, ⟨ia2, sl2, h2, R2, S2, r2, q2⟩, hl⟩ := q ka H' ys g R' r'
    rw [List.append_nil, List.append_nil] at r2
    exact ⟨ia2, h2, ws, R2, r2, q2⟩
theorem tCL.mono {ml : M (List Val)} {st : L2.St} {H : Hp} {vs : List Val} {xs : List V} {Q Q' : List V → Hp → Prop} (t : tCL X.K ca W vs xs ml st H Q) (k : ∀ x H', Q x H' → Q' x H') : tCL X.K ca W vs xs ml st H Q' := by
  obtain ⟨ia, sl, h, R, S, r, q⟩ := t
  refine ⟨ia, sl, h, R, S, r, ?_⟩
  cases e : ml sl h with
  | bad => rw [e] at q; exact q
  | exc c v h' => rw [e] at q; exact q
  | ok vs h1 => rw [e] at q; exact fun ka H' ys g R' r' => k _ _ (q ka H' ys g R' r')
theorem tCB.mono {mt : M Bool} {st : L2.St} {H : Hp} {vs : List Val} {xs : List V} {Q Q' : Bool → Hp → Prop} (t : tCB X.K ca W vs xs mt st H Q) (k : ∀ x H', Q x H' → Q' x H') : tCB X.K ca W vs xs mt st H Q' := by
  obtain ⟨ia, sl, h, R, S, r, q⟩ := t
  refine ⟨ia, sl, h, R, S, r, ?_⟩
  cases e : mt sl h with
  | bad => rw [e] at q; exact q
  | exc c v h' => rw [e] at q; exact q
  | ok vs h1 => rw [e] at q; exact fun ka H' g R' => k _ _ (q ka H' g R')
theorem d_blt {x : Str} {bi : Bi} {p : Pos} {ml : M (List Val)} (hc : X.calm = true) (hg : Gl X x) (hm : X.mg x = none) (hv : bootBuiltins x = some (biV bi)) (hn : okN x = true) (hst : ∀ y ∈ e :: es, noStar y = true) (ha : PA X (e :: es) (tOfL X.K ca W ml)) :
    PE X (.Call (.Name x p) (e :: es) [] pos) (tOf X.K ca W (fun sl h => (ml sl h).bind fun vs h1 => vBi bi vs h1)) := by
  have h1 : x ≠ "__name__" := by
    unfold okN at hn
    simp only [Bool.and_eq_true, Bool.not_eq_true', decide_eq_false_iff_not] at hn
    exact hn.2
  have h2 : (x == ("__debug__" : Str)) = false := by
    unfold okN at hn
    simp only [Bool.and_eq_true, Bool.not_eq_true'] at hn
    exact hn.1.1
  have h3 := star_cons (X := X) (es := es) (hst e List.mem_cons_self)
  have h4 := star_none (X := X) (pos := pos) fun y hy => hst y (List.mem_cons_of_mem _ hy)
  have key : ∀ st H Q, tOf X.K ca W (fun sl h => (ml sl h).bind fun vs h1 => vBi bi vs h1) st H Q → L2.tCB (rVL X.K ca (vBi bi)) (tOfL X.K ca W ml) st H Q := fun st H Q t =>
    tCL.mono (lst_call t) fun ys H1 ⟨ia, h, vs, R, r, q⟩ => ⟨ia, h, vs, _, R, r, q⟩
  have cr := cv_bi (ca := ca) hc bi
  cases bi with
  | len => exact pe_imp (pe_callB cr hg hm hv ha h1 h2 h3 h4) key
  | abs => exact pe_imp (pe_callB cr hg hm hv ha h1 h2 h3 h4) key
  | min2 => exact pe_imp (pe_callB cr hg hm hv ha h1 h2 h3 h4) key
  | max2 => exact pe_imp (pe_callB cr hg hm hv ha h1 h2 h3 h4) key
  | all => exact pe_imp (pe_callB cr hg hm hv ha h1 h2 h3 h4) key
  | any => exact pe_imp (pe_callB cr hg hm hv ha h1 h2 h3 h4) key
  | int => exact pe_imp (pe_callTy cr hg hm hv ha h1 h2 h3 h4) key
  | list => exact pe_imp (pe_callTy cr hg hm hv ha h1 h2 h3 h4) key
  | tuple => exact pe_imp (pe_callTy cr hg hm hv ha h1 h2 h3 h4) key
end
end Mi

set_option Elab.async false
set_option linter.all false
set_option maxRecDepth 100000
set_option maxHeartbeats 1000000
/-! D13: further constructs. -/
namespace Mi
open PySem L2 PyProof.Rows
section
variable {X : Cx} {ca : Str → Addr} {W : WS} {a b c e o : Expr} {es : List Expr} {pos : Pos} {ma mb mc : M Val}
/-- the value at hand is what the result wants -/
theorem tOf.split {m : M Val} {st : L2.St} {H : Hp} {Q : VK} {vs : List Val} {xs : List V} (t : tC X.K ca W vs xs m st H Q) : ∃ (ia : List Addr) (sl : LS) (h : LH), Rep X.K ca ia H h ∧ RS X.K ia H sl st ∧ RVs X.K ia H vs xs ∧ Want X.K ca ia H (m sl h) Q (fun c d H' => W c d st H') := t
theorem chn_read {op op' : CmpOp} {st : L2.St} {H : Hp} {Q : VK} (t : tOf X.K ca W (fun sl h => (ma sl h).bind fun v h1 => (mb sl h1).bind fun w h2 => (vCmp op v w h2).bind fun z h3 => chnK z h3 fun h3 => (mc sl h3).bind fun u h4 => vCmp op' w u h4) st H Q) :
    tChain (rV2 X.K ca (vCmp op)) (rV2 X.K ca (vCmp op')) (tOf X.K ca W ma) (tOf X.K ca W mb) (tOf X.K ca W mc) st H Q := by
  refine (tC.step (f := fun v sl h1 => (mb sl h1).bind fun w h2 => (vCmp op v w h2).bind fun z h3 => chnK z h3 fun h3 => (mc sl h3).bind fun u h4 => vCmp op' w u h4) t).mono fun x H1 ⟨v, t1⟩ => ?_
  refine (tC.step (f := fun w sl h2 => (vCmp op v w h2).bind fun z h3 => chnK z h3 fun h3 => (mc sl h3).bind fun u h4 => vCmp op' w u h4) t1).mono fun y H2 ⟨w, t2⟩ => ?_
  obtain ⟨ia, sl, h, R, S, r, q⟩ := t2
  cases r with
  | cons ry r =>
    cases r with
    | cons rx _ =>
      refine ⟨ia, h, v, w, fun c d H' => W c d st H', R, rx, ry, ?_⟩
      dsimp only at q
      cases ez : vCmp op v w h with
      | bad => rw [ez] at q; exact q
      | exc c v h' => rw [ez] at q; exact q
      | ok z h3 =>
        rw [ez] at q
        intro ka H3 z' g R3 rz
        have q2 := Want.shift (show Want X.K ca ia H2 (chnK z h3 fun h3 => (mc sl h3).bind fun u h4 => vCmp op' w u h4) Q (fun c d H' => W c d st H') from q) g
        unfold chnK at q2
        split at q2
        · cases rz
          refine ⟨true, rfl, ?_⟩
          rw [if_pos rfl]
          have t3 : tC X.K ca W [w] [y] (fun sl h => (mc sl h).bind fun u h4 => vCmp op' w u h4) st H3 Q := ⟨ia ++ ka, sl, h3, R3, S.grow g R, .cons (ry.grow g R) .nil, q2⟩
          exact (tC.step (f := fun u sl h4 => vCmp op' w u h4) t3).mono fun y' H4 ⟨u, t4⟩ => two t4
        · cases rz
          refine ⟨false, rfl, ?_⟩
          rw [if_neg Bool.false_ne_true]
          exact q2.now R3 (.bl _)
        · exact (show False from q2).elim
theorem d_chn {op op' : CmpOp} (hu : X.A.units + 65 < cLine) (hm : lastMarks [op, op'] [b, c] = false) (ha : PE X a (tOf X.K ca W ma)) (hb : PE X b (tOf X.K ca W mb)) (hc : PE X c (tOf X.K ca W mc)) :
    PE X (.Compare a [op, op'] [b, c] pos) (tOf X.K ca W (fun sl h => (ma sl h).bind fun v h1 => (mb sl h1).bind fun w h2 => (vCmp op v w h2).bind fun z h3 => chnK z h3 fun h3 => (mc sl h3).bind fun u h4 => vCmp op' w u h4)) :=
  pe_imp (pe_chain (cpv (ca := ca) hu op) (cpv (ca := ca) hu op') ha hb hc hm) fun st H Q t => chn_read t
/-! ### and, or as values -/
theorem d_an {ev : IE → LS → LH → Res Val} {f : Expr → Option IE} (hf : ∀ e ie, f e = some ie → PE X e (tOf X.K ca W (ev ie))) : ∀ {es : List Expr} {is : List IE}, mapX f es = some is → PE X (.BoolOp .And es pos) (tOf X.K ca W (evAn ev is))
  | [], is, h => by
    cases h
    exact ⟨fun pins s st H Q I t => by obtain ⟨_, _, _, _, _, _, w⟩ := t; exact (show False from w).elim⟩
  | [e], is, h => by
    unfold mapX at h
    split at h
    · rename_i i js e1 e2 e3
      cases h
      cases e3
      exact pe_one (hf e i e2)
    · cases h
  | e :: e2 :: es, is, h => by
    unfold mapX at h
    split at h
    · rename_i i js e1 e4 e3
      cases h
      have ih := d_an hf e3
      have hjs : ∃ j js', js = j :: js' := by
        have l := (mapX_star e3).1
        cases js with
        | nil => cases l
        | cons j js' => exact ⟨j, js', rfl⟩
      obtain ⟨j, js', rfl⟩ := hjs
      refine pe_imp (pe_and (hf e i e4) ih) fun st H Q t => ?_
      refine (tC.step (f := fun v sl h1 => match v with
        | .bl true => evAn ev (j :: js') sl h1
        | .bl false => .ok (.bl false) h1
        | _ => .bad) t).mono fun x H1 ⟨v, t1⟩ => ?_
      obtain ⟨ia, sl, h, R, S, r, q⟩ := t1
      cases r with
      | cons rx _ =>
        dsimp only at q
        split at q
        · cases rx
          exact ⟨true, rfl, by rw [if_pos rfl]; exact ⟨ia, sl, h, R, S, .nil, q⟩⟩
        · cases rx
          exact ⟨false, rfl, by rw [if_neg Bool.false_ne_true]; exact q.now R (.bl _)⟩
        · exact (show False from q).elim
    · cases h
theorem d_or {ev : IE → LS → LH → Res Val} {f : Expr → Option IE} (hf : ∀ e ie, f e = some ie → PE X e (tOf X.K ca W (ev ie))) : ∀ {es : List Expr} {is : List IE}, mapX f es = some is → PE X (.BoolOp .Or es pos) (tOf X.K ca W (evOr ev is))
  | [], is, h => by
    cases h
    exact ⟨fun pins s st H Q I t => by obtain ⟨_, _, _, _, _, _, w⟩ := t; exact (show False from w).elim⟩
  | [e], is, h => by
    unfold mapX at h
    split at h
    · rename_i i js e1 e2 e3
      cases h
      cases e3
      exact pe_one (hf e i e2)
    · cases h
  | e :: e2 :: es, is, h => by
    unfold mapX at h
    split at h
    · rename_i i js e1 e4 e3
      cases h
      have ih := d_or hf e3
      have hjs : ∃ j js', js = j :: js' := by
        have l := (mapX_star e3).1
        cases js with
        | nil => cases l
        | cons j js' => exact ⟨j, js', rfl⟩
      obtain ⟨j, js', rfl⟩ := hjs
      refine pe_imp (pe_or (hf e i e4) ih) fun st H Q t => ?_
      refine (tC.step (f := fun v sl h1 => match v with
        | .bl true => .ok (.bl true) h1
        | .bl false => evOr ev (j :: js') sl h1
        | _ => .bad) t).mono fun x H1 ⟨v, t1⟩ => ?_
      obtain ⟨ia, sl, h, R, S, r, q⟩ := t1
      cases r with
      | cons rx _ =>
        dsimp only at q
        split at q
        · cases rx
          exact ⟨true, rfl, by rw [if_pos rfl]; exact q.now R (.bl _)⟩
        · cases rx
          exact ⟨false, rfl, by rw [if_neg Bool.false_ne_true]; exact ⟨ia, sl, h, R, S, .nil, q⟩⟩
        · exact (show False from q).elim
    · cases h
/-! ### tests -/
theorem pw_imp {e : Expr} {t t' : TT} (h : PW X e t) (k : ∀ st H Q, t' st H Q → t st H Q) : PW X e t' := ⟨fun wh pins s st H Q I q => h.run wh pins s st H Q I (k st H Q q)⟩
theorem dt_an {ev : IE → LS → LH → Res Bool} {f : Expr → Option IE} (hf : ∀ e ie, f e = some ie → PT X e (tOfB X.K ca W (ev ie))) : ∀ {es : List Expr} {is : List IE}, mapX f es = some is → PW X (.BoolOp .And es pos) (tOfB X.K ca W (tsAn ev is))
  | [], is, h => by
    cases h
    exact ⟨fun wh pins s st H Q I t => by obtain ⟨_, _, _, _, _, _, w⟩ := t; exact (show False from w).elim⟩
  | [e], is, h => by
    unfold mapX at h
    split at h
    · rename_i i js e1 e2 e3
      cases h
      cases e3
      exact pw_and1 (hf e i e2)
    · cases h
  | e :: e2 :: es, is, h => by
    unfold mapX at h
    split at h
    · rename_i i js e1 e4 e3
      cases h
      have ih := dt_an hf e3
      have hjs : ∃ j js', js = j :: js' := by
        have l := (mapX_star e3).1
        cases js with
        | nil => cases l
        | cons j js' => exact ⟨j, js', rfl⟩
      obtain ⟨j, js', rfl⟩ := hjs
      refine pw_imp (pw_and (hf e i e4) ih) fun st H Q t => ?_
      refine tCB.mono (tCB.stepB (f := fun b sl h1 => match b with
        | true => tsAn ev (j :: js') sl h1
        | false => .ok false h1) t) fun b H1 t1 => ?_
      cases b with
      | true => rw [if_pos rfl]; exact t1
      | false =>
        rw [if_neg Bool.false_ne_true]
        obtain ⟨ia, sl, h, R, S, r, q⟩ := t1
        exact WantB.now q R
    · cases h
theorem dt_or {ev : IE → LS → LH → Res Bool} {f : Expr → Option IE} (hf : ∀ e ie, f e = some ie → PT X e (tOfB X.K ca W (ev ie))) : ∀ {es : List Expr} {is : List IE}, mapX f es = some is → PW X (.BoolOp .Or es pos) (tOfB X.K ca W (tsOr ev is))
  | [], is, h => by
    cases h
    exact ⟨fun wh pins s st H Q I t => by obtain ⟨_, _, _, _, _, _, w⟩ := t; exact (show False from w).elim⟩
  | [e], is, h => by
    unfold mapX at h
    split at h
    · rename_i i js e1 e2 e3
      cases h
      cases e3
      exact pw_or1 (hf e i e2)
    · cases h
  | e :: e2 :: es, is, h => by
    unfold mapX at h
    split at h
    · rename_i i js e1 e4 e3
      cases h
      have ih := dt_or hf e3
      have hjs : ∃ j js', js = j :: js' := by
        have l := (mapX_star e3).1
        cases js with
        | nil => cases l
        | cons j js' => exact ⟨j, js', rfl⟩
      obtain ⟨j, js', rfl⟩ := hjs
      refine pw_imp (pw_or (hf e i e4) ih) fun st H Q t => ?_
      refine tCB.mono (tCB.stepB (f := fun b sl h1 => match b with
        | true => .ok true h1
        | false => tsOr ev (j :: js') sl h1) t) fun b H1 t1 => ?_
      cases b with
      | true =>
        rw [if_pos rfl]
        obtain ⟨ia, sl, h, R, S, r, q⟩ := t1
        exact WantB.now q R
      | false => rw [if_neg Bool.false_ne_true]; exact t1
    · cases h
theorem dt_nt {mt : M Bool} (ha : PT X a (tOfB X.K ca W mt)) : PT X (.UnaryOp .Not a pos) (tOfB X.K ca W (fun sl h => (mt sl h).bind fun b h1 => .ok (!b) h1)) := by
  refine pt_imp (pt_not ha) fun st H Q t => ?_
  refine tCB.mono (tCB.stepB (f := fun b sl h1 => .ok (!b) h1) t) fun b H1 t1 => ?_
  obtain ⟨ia, sl, h, R, S, r, q⟩ := t1
  exact WantB.now q R
/-- a value that is True or False, as a test -/
theorem tst_val {m : M Val} {st : L2.St} {H : Hp} {Q : Bool → Hp → Prop} (t : tOfB X.K ca W (fun sl h => (m sl h).bind fun v h1 => match v with
    | .bl b => .ok b h1
    | _ => .bad) st H Q) : tOf X.K ca W m st H (fun x H1 => ∃ k, x = .bl k ∧ Q k H1) := by
  refine (tCB.step (f := fun v sl h1 => match v with
    | .bl b => .ok b h1
    | _ => .bad) t).mono fun x H1 ⟨v, t1⟩ => ?_
  obtain ⟨ia, sl, h, R, S, r, q⟩ := t1
  cases r with
  | cons rx _ =>
    dsimp only at q
    split at q
    · cases rx
      exact ⟨_, rfl, WantB.now q R⟩
    · exact (show False from q).elim
theorem dt_cmp {op : CmpOp} (hu : X.A.units + 65 < cLine) (hm : behindInMarks op b = false) (ha : PE X a (tOf X.K ca W ma)) (hb : PE X b (tOf X.K ca W mb)) :
    PT X (.Compare a [op] [b] pos) (tOfB X.K ca W (fun sl h => ((ma sl h).bind fun v h1 => (mb sl h1).bind fun w h2 => vCmp op v w h2).bind fun v h1 => match v with
    | .bl b => .ok b h1
    | _ => .bad)) := by
  refine pt_imp (pt_cmpR (cpv (ca := ca) hu op) ha hb hm) fun st H Q t => ?_
  have t' := tst_val (m := fun sl h => (ma sl h).bind fun v h1 => (mb sl h1).bind fun w h2 => vCmp op v w h2) t
  show tOf X.K ca W ma st H fun x H1 => tOf X.K ca W mb st H1 fun y H2 => rV2 X.K ca (vCmp op) x y H2 _
  refine (tC.step (f := fun v sl h1 => (mb sl h1).bind fun w h2 => vCmp op v w h2) t').mono fun x H1 ⟨v, t1⟩ => ?_
  refine (tC.step (f := fun w sl h2 => vCmp op v w h2) t1).mono fun y H2 ⟨w, t2⟩ => two t2
theorem dt_chn {op op' : CmpOp} (hu : X.A.units + 65 < cLine) (hm : lastMarks [op, op'] [b, c] = false) (ha : PE X a (tOf X.K ca W ma)) (hb : PE X b (tOf X.K ca W mb)) (hc : PE X c (tOf X.K ca W mc)) :
    PT X (.Compare a [op, op'] [b, c] pos) (tOfB X.K ca W (fun sl h => ((ma sl h).bind fun v h1 => (mb sl h1).bind fun w h2 => (vCmp op v w h2).bind fun z h3 => chnK z h3 fun h3 => (mc sl h3).bind fun u h4 => vCmp op' w u h4).bind fun v h1 => match v with
    | .bl b => .ok b h1
    | _ => .bad)) :=
  pt_imp (pt_chain (cpv (ca := ca) hu op) (cpv (ca := ca) hu op') ha hb hc hm) fun st H Q t => chn_read (tst_val (m := fun sl h => (ma sl h).bind fun v h1 => (mb sl h1).bind fun w h2 => (vCmp op v w h2).bind fun z h3 => chnK z h3 fun h3 => (mc sl h3).bind fun u h4 => vCmp op' w u h4) t)
/-- a value by its truth -/
theorem dt_tru (he : PE X e (tOf X.K ca W ma)) (hp : ∀ whole, isTrue e X.env whole = (do let v ← whole; standAt e.pos; holding [v] (truthy v))) :
    PT X e (tOfB X.K ca W (fun sl h => (ma sl h).bind fun v h1 => match truO v h1 with
    | some b => .ok b h1
    | none => .bad)) := by
  refine pt_imp (pt_truth he hp) fun st H Q t => ?_
  refine (tCB.step (f := fun v sl h1 => match truO v h1 with
    | some b => .ok b h1
    | none => .bad) t).mono fun x H1 ⟨v, t1⟩ => ?_
  obtain ⟨ia, sl, h, R, S, r, q⟩ := t1
  cases r with
  | cons rx _ =>
    dsimp only at q
    split at q
    · rename_i b eb
      exact ⟨b, truO_ok R eb rx, WantB.now q R⟩
    · exact (show False from q).elim
/-! ### slices, list(range(n)) -/
theorem d_sl0 {p2 : Pos} (ha : PE X a (tOf X.K ca W ma)) : PE X (.Subscript a (.Slice none none none p2) pos) (tOf X.K ca W (fun sl h => (ma sl h).bind fun v h1 => vSl v none none h1)) := by
  refine pe_imp (pe_slice (sv_sl (ca := ca)) ha po_none po_none) fun st H Q t => ?_
  refine (tC.step (f := fun v sl h1 => vSl v none none h1) t).mono fun x H1 ⟨v, t1⟩ => ?_
  obtain ⟨ia, sl, h, R, S, r, q⟩ := t1
  cases r with
  | cons rx _ => exact ⟨ia, h, v, _, R, rx, q⟩
theorem d_sl1 {p2 : Pos} (ha : PE X a (tOf X.K ca W ma)) (hb : PE X b (tOf X.K ca W mb)) : PE X (.Subscript a (.Slice (some b) none none p2) pos) (tOf X.K ca W (fun sl h => (ma sl h).bind fun v h1 => (mb sl h1).bind fun x h2 => slI1 v x h2)) := by
  refine pe_imp (pe_slice (sv_sl (ca := ca)) ha (po_some hb) po_none) fun st H Q t => ?_
  refine (tC.step (f := fun v sl h1 => (mb sl h1).bind fun x h2 => slI1 v x h2) t).mono fun x H1 ⟨v, t1⟩ => ?_
  refine (tC.step (f := fun x sl h2 => slI1 v x h2) t1).mono fun y H2 ⟨w, t2⟩ => ?_
  obtain ⟨ia, sl, h, R, S, r, q⟩ := t2
  cases r with
  | cons ry r =>
    cases r with
    | cons rx _ =>
      dsimp only [slI1] at q
      split at q
      · cases ry
        exact ⟨_, rfl, ia, h, v, _, R, rx, q⟩
      · exact (show False from q).elim
theorem d_sl2 {p2 : Pos} (ha : PE X a (tOf X.K ca W ma)) (hb : PE X b (tOf X.K ca W mb)) : PE X (.Subscript a (.Slice none (some b) none p2) pos) (tOf X.K ca W (fun sl h => (ma sl h).bind fun v h1 => (mb sl h1).bind fun x h2 => slI2 v x h2)) := by
  refine pe_imp (pe_slice (sv_sl (ca := ca)) ha po_none (po_some hb)) fun st H Q t => ?_
  refine (tC.step (f := fun v sl h1 => (mb sl h1).bind fun x h2 => slI2 v x h2) t).mono fun x H1 ⟨v, t1⟩ => ?_
  refine (tC.step (f := fun x sl h2 => slI2 v x h2) t1).mono fun y H2 ⟨w, t2⟩ => ?_
  obtain ⟨ia, sl, h, R, S, r, q⟩ := t2
  cases r with
  | cons ry r =>
    cases r with
    | cons rx _ =>
      dsimp only [slI2] at q
      split at q
      · cases ry
        exact ⟨_, rfl, ia, h, v, _, R, rx, q⟩
      · exact (show False from q).elim
theorem d_sl3 {p2 : Pos} (ha : PE X a (tOf X.K ca W ma)) (hb : PE X b (tOf X.K ca W mb)) (hc : PE X c (tOf X.K ca W mc)) :
    PE X (.Subscript a (.Slice (some b) (some c) none p2) pos) (tOf X.K ca W (fun sl h => (ma sl h).bind fun v h1 => (mb sl h1).bind fun x h2 => intK x fun i => (mc sl h2).bind fun y h3 => intK y fun j => vSl v (some i) (some j) h3)) := by
  refine pe_imp (pe_slice (sv_sl (ca := ca)) ha (po_some hb) (po_some hc)) fun st H Q t => ?_
  refine (tC.step (f := fun v sl h1 => (mb sl h1).bind fun x h2 => intK x fun i => (mc sl h2).bind fun y h3 => intK y fun j => vSl v (some i) (some j) h3) t).mono fun x H1 ⟨v, t1⟩ => ?_
  refine (tC.step (f := fun x sl h2 => intK x fun i => (mc sl h2).bind fun y h3 => intK y fun j => vSl v (some i) (some j) h3) t1).mono fun y H2 ⟨w, t2⟩ => ?_
  obtain ⟨ia, sl, h, R, S, r, q⟩ := t2
  cases r with
  | cons ry r =>
    dsimp only [intK] at q
    split at q
    · rename_i i
      cases ry
      refine ⟨i, rfl, ?_⟩
      have t3 : tC X.K ca W [v] [x] (fun sl h => (mc sl h).bind fun y h3 => intK y fun j => vSl v (some i) (some j) h3) st H2 Q := ⟨ia, sl, h, R, S, r, q⟩
      refine (tC.step (f := fun y sl h3 => intK y fun j => vSl v (some i) (some j) h3) t3).mono fun z H3 ⟨u, t4⟩ => ?_
      obtain ⟨ia, sl, h, R, S, r, q⟩ := t4
      cases r with
      | cons rz r =>
        cases r with
        | cons rx _ =>
          dsimp only [intK] at q
          split at q
          · cases rz
            exact ⟨_, rfl, ia, h, v, _, R, rx, q⟩
          · exact (show False from q).elim
    · exact (show False from q).elim
theorem d_lrg {p p2 pos2 : Pos} (hc : X.calm = true) (hg : Gl X "list") (hm : X.mg "list" = none) (hg2 : Gl X "range") (hm2 : X.mg "range" = none) (hst : noStar a = true) (ha : PE X a (tOf X.K ca W ma)) :
    PE X (.Call (.Name "list" p) [.Call (.Name "range" p2) [a] [] pos2] [] pos) (tOf X.K ca W (fun sl h => (ma sl h).bind fun v h1 => match v with
    | .int n => chk (decide (-(2 ^ 62) ≤ n ∧ n < 2 ^ 62 ∧ n.toNat ≤ 2 ^ 24)) (newL ((List.range n.toNat).map fun (i : Nat) => Val.int (i : Int)) h1)
    | _ => .bad)) := by
  refine pe_imp (pe_listRg hc hg hm (prg_1 hg2 hm2 ha (star_cons hst))) fun st H Q t => ?_
  refine (tC.step (f := fun v sl h1 => match v with
    | .int n => chk (decide (-(2 ^ 62) ≤ n ∧ n < 2 ^ 62 ∧ n.toNat ≤ 2 ^ 24)) (newL ((List.range n.toNat).map fun (i : Nat) => Val.int (i : Int)) h1)
    | _ => .bad) t).mono fun x H1 ⟨v, t1⟩ => ?_
  obtain ⟨ia, sl, h, R, S, r, q⟩ := t1
  cases r with
  | cons rx _ =>
    dsimp only at q
    split at q
    · rename_i n
      cases rx
      obtain ⟨c, q⟩ := chk_ok q
      obtain ⟨c1, c2, c3⟩ := of_decide_eq_true c
      refine ⟨n, rfl, ⟨by decide, by decide, c1, c2, by omega⟩, ?_⟩
      have e : rgV 0 n = (List.range n.toNat).map fun (i : Nat) => V.int (i : Int) := by
        unfold rgV
        rw [Int.sub_zero]
        refine List.map_congr_left fun i _ => ?_
        simp
      rw [e]
      refine q.newL R ?_
      have : ∀ (l : List Nat), RVs X.K ia H1 (l.map fun (i : Nat) => Val.int (i : Int)) (l.map fun (i : Nat) => V.int (i : Int)) := by
        intro l
        induction l with
        | nil => exact .nil
        | cons i l ih => exact .cons (.int _) ih
      exact this _
    · exact (show False from q).elim
end
end Mi

set_option Elab.async false
set_option linter.all false
set_option maxRecDepth 100000
set_option maxHeartbeats 1000000
/-! D14: methods, calls, comprehensions, targets. -/
namespace Mi
open PySem L2 PyProof.Rows
/-- a def's promise, by its run -/
def spC (K : PySem.W.Frag) (ca : Str → Addr) (f : List Val → LH → Res Val) : Sp := fun vs H Q E => ∃ (ia : List Addr) (h : LH) (args : List Val), Rep K ca ia H h ∧ RVs K ia H args vs ∧ Want K ca ia H (f args h) Q E
/-- an exception's wish that does not hang on the slots -/
abbrev wE (E : XK) : WS := fun c d _ H => E c d H
section
variable {X : Cx} {ca : Str → Addr} {W : WS} {E : XK} {a b c e o : Expr} {es : List Expr} {pos : Pos} {ma mb mo : M Val} {ml : M (List Val)}
theorem okN_d {x : Str} (h : okN x = true) : (x == ("__debug__" : Str)) = false ∧ (x == ("__classdict__" : Str)) = false ∧ x ≠ "__name__" := by
  unfold okN at h
  simp only [Bool.and_eq_true, Bool.not_eq_true', decide_eq_false_iff_not] at h
  exact ⟨h.1.1, h.1.2, h.2⟩
theorem plain_base {n : Str} (h : plainO o = true) : attributeBase o n X.env (eval o X.env) = eval o X.env := by
  cases o with
  | Call f args kw p =>
    cases f with
    | Name y q =>
      cases args with
      | nil =>
        cases kw with
        | nil => cases h
        | cons _ _ => rfl
      | cons _ _ => rfl
    | _ => rfl
  | _ => rfl
theorem few_ok {cp : Pos} {es : List Expr} (hs : ∀ y ∈ es, noStar y = true) (hl : es.length < 29) :
    ((backTo cp (starEach es X.env)).all (fun x => !x.1) && (backToKw cp (keywordEach [] X.env)).all (fun x => x.1.isSome) && decide (es.length + ([] : List Keyword).length + (if ([] : List Keyword).isEmpty then 0 else 1) < 30)) = true := by
  have h1 : (backTo cp (starEach es X.env)).all (fun x => !x.1) = true := by
    induction es with
    | nil => rfl
    | cons e es ih =>
      rw [star_cons (hs e List.mem_cons_self)]
      show (true && (backTo cp (starEach es X.env)).all (fun x => !x.1)) = true
      rw [ih (fun y hy => hs y (List.mem_cons_of_mem _ hy)) (by simp at hl; omega)]
      rfl
  rw [h1]
  have h2 : decide (es.length + ([] : List Keyword).length + (if ([] : List Keyword).isEmpty then 0 else 1) < 30) = true := decide_eq_true (by simp; omega)
  rw [h2]
  rfl
theorem d_mth {m : Mt} {x : Str} {ap cp : Pos} (hx : x = mtName m) (hp : plainO o = true) (hl : (ap.endLine == cp.line) = true) (hst : ∀ y ∈ e :: es, noStar y = true) (hn : (e :: es).length < 29) (ho : PE X o (tOf X.K ca W mo)) (ha : PA X (e :: es) (tOfL X.K ca W ml)) :
    PE X (.Call (.Attribute o x ap) (e :: es) [] cp) (tOf X.K ca W (fun sl h => (mo sl h).bind fun v h1 => match okTy m v h1 with
    | true => (ml sl h1).bind fun vs h2 => vMt m v vs h2
    | false => .bad)) := by
  have key : ∀ st H Q, tOf X.K ca W (fun sl h => (mo sl h).bind fun v h1 => match okTy m v h1 with
    | true => (ml sl h1).bind fun vs h2 => vMt m v vs h2
    | false => .bad) st H Q → tBM X.K (mtT m) (rVM X.K ca m) (tOf X.K ca W mo) (tOfL X.K ca W ml) st H Q := by
    intro st H Q t
    refine (tC.step (f := fun v sl h1 => match okTy m v h1 with
      | true => (ml sl h1).bind fun vs h2 => vMt m v vs h2
      | false => .bad) t).mono fun x H1 ⟨v, t1⟩ => ?_
    obtain ⟨ia, sl, h, R, S, r, q⟩ := t1
    cases r with
    | cons rx _ =>
      dsimp only at q
      cases ek : okTy m v h with
      | false => rw [ek] at q; exact (show False from q).elim
      | true =>
        rw [ek] at q
        refine ⟨okTy_ok R rx ek, ?_⟩
        have t2 : tC X.K ca W [v] [x] (fun sl h => (ml sl h).bind fun vs h2 => vMt m v vs h2) st H1 Q := ⟨ia, sl, h, R, S, .cons rx .nil, q⟩
        obtain ⟨ia, sl, h, R, S, r, q⟩ := tC.stepL (f := fun vs sl h2 => vMt m v vs h2) t2
        refine ⟨ia, sl, h, R, S, r, ?_⟩
        cases e' : ml sl h with
        | bad => rw [e'] at q; exact q
        | exc c v h' => rw [e'] at q; exact q
        | ok vs h1 =>
          rw [e'] at q
          intro ka H' ys g R' r'
          obtain ⟨ws, ⟨ia2, sl2, h2, R2, S2, r2, q2⟩, hl⟩ := q ka H' ys g R' r'
          have sp : ∀ {a b : List Val} {c d : List V}, a.length = c.length → RVs X.K ia2 H' (a ++ b) (c ++ d) → RVs X.K ia2 H' a c ∧ RVs X.K ia2 H' b d := by
            intro a
            induction a with
            | nil =>
              intro b c d hl r
              cases c with
              | nil => exact ⟨.nil, r⟩
              | cons _ _ => cases hl
            | cons x a ih =>
              intro b c d hl r
              cases c with
              | nil => cases hl
              | cons y c =>
                cases r with
                | cons r1 r2 =>
                  obtain ⟨q1, q2⟩ := ih (by simpa using hl) r2
                  exact ⟨.cons r1 q1, q2⟩
          obtain ⟨z1, z2⟩ := sp hl r2
          cases z2 with
          | cons z2 _ => exact ⟨ia2, h2, v, ws, _, R2, z2, z1, q2⟩
  subst hx
  have hb := plain_base (X := X) (n := mtName m) hp
  have hf := few_ok (X := X) (cp := cp) hst hn
  have h3 := star_cons (X := X) (es := es) (hst e List.mem_cons_self)
  have h4 := star_none (X := X) (pos := cp) fun y hy => hst y (List.mem_cons_of_mem _ hy)
  cases m with
  | append => exact pe_imp (pe_bm PySem.F.plainAttrs_list PySem.F.slot_list_append PySem.F.type_list_append (mv_mt (ca := ca) .append) ho ha hb hf hl h3 h4) key
  | extend => exact pe_imp (pe_bm PySem.F.plainAttrs_list PySem.F.slot_list_extend PySem.F.type_list_extend (mv_mt (ca := ca) .extend) ho ha hb hf hl h3 h4) key
  | popAt => exact pe_imp (pe_bm PySem.F.plainAttrs_list PySem.F.slot_list_pop PySem.F.type_list_pop (mv_mt (ca := ca) .popAt) ho ha hb hf hl h3 h4) key
/-! ### the names of a target -/
theorem idx_ok {N : List Str} {x : Str} {i : Nat} (h : idx N x = some i) : N[i]? = some x := by
  unfold idx at h
  obtain ⟨hi, hp, _⟩ := List.findIdx?_eq_some_iff_getElem.mp h
  rw [List.getElem?_eq_getElem hi]
  exact congrArg some (of_decide_eq_true hp)
theorem assign_cons {e : Expr} {es : List Expr} (hs : noStar e = true) : assignEach (e :: es) X.env = (false, assign e X.env) :: assignEach es X.env := by
  cases e <;> first | rfl | cases hs
/-- what a target's names must be -/
structure TgOk (X : Cx) (N : List Str) (scL : Scope) : Prop where
  n : X.N = N
  nd : N.Nodup
  calm : X.calm = true
  loc : ∀ x, locB scL x = true → Loc X.env.scope x ∧ (X.fn x = true ∨ X.env.scope.names.lookup x = some .local)
mutual
theorem d_tg {N : List Str} {scL : Scope} (ok : TgOk X N scL) : ∀ {m : Nat} {e : Expr} {t : ITg}, trG N scL m e = some t → PG X e (gB X.K ca t)
  | 0, e, t, h => by cases h
  | m + 1, e, t, h => by
    unfold trG at h
    split at h
    · split at h
      · rename_i x p hl
        obtain ⟨i, e1, e2⟩ := Option.map_eq_some_iff.mp h
        subst e2
        obtain ⟨l1, l2⟩ := ok.loc x hl
        exact pg_imp (pg_name (by rw [ok.n]; exact ok.nd) (by rw [ok.n]; exact idx_ok e1) l1 l2) fun v st H Q q => gB_nm q
      · cases h
    · rename_i es k p
      obtain ⟨ts, e1, e2⟩ := Option.map_eq_some_iff.mp h
      subst e2
      obtain ⟨hp, hl, hst⟩ := d_tgs ok e1
      exact pg_imp (pg_tup ok.calm hp rfl hst) fun v st H Q q => gB_tp hl q
    · cases h
theorem d_tgs {N : List Str} {scL : Scope} (ok : TgOk X N scL) : ∀ {m : Nat} {es : List Expr} {ts : List ITg}, trGs N scL m es = some ts → PGs X es (gBs X.K ca ts) ∧ ts.length = (assignEach es X.env).length ∧ (assignEach es X.env).findIdx? (·.1) = none
  | m, [], ts, h => by
    cases m with
    | zero => cases h; exact ⟨pgs_imp pgs_nil fun v st H Q q => gBs_nil q, rfl, rfl⟩
    | succ m => cases h; exact ⟨pgs_imp pgs_nil fun v st H Q q => gBs_nil q, rfl, rfl⟩
  | 0, e :: es, ts, h => by cases h
  | m + 1, e :: es, ts, h => by
    unfold trGs at h
    split at h
    · rename_i t ts' e1 e2 e3
      cases h
      have h1 := d_tg ok e2
      obtain ⟨h2, hl, hst⟩ := d_tgs ok e3
      have ha := assign_cons (X := X) (es := es) e1
      refine ⟨pgs_imp (pgs_cons h1 h2 (by rw [ha]; rfl)) fun v st H Q q => gBs_cons q, by rw [ha]; simp [hl], ?_⟩
      rw [ha, List.findIdx?_cons]
      simp [hst]
    · cases h
end
end
end Mi

set_option Elab.async false
set_option linter.all false
set_option maxRecDepth 100000
set_option maxHeartbeats 1000000
/-! D15: sources of loops; a comprehension. -/
namespace Mi
open PySem L2 PyProof.Rows
/-- what the module's names must be -/
structure GOk (g : Glo) (K : PySem.W.Frag) (mg : Str → Option Value) : Prop where
  val : ∀ x v, g.lookup x = some (.val v) → ∃ w u, mg x = some u ∧ RelV w u ∧ ∀ ia H, RV K ia H v w
  blt : ∀ x, g.lookup x = some .blt → mg x = none
section
variable {X : Cx} {ca : Str → Addr} {W : WS} {g : Glo} {sc : Scope}
theorem pi_imp {tg e : Expr} {t t' : TI} (h : PI X tg e t) (k : ∀ st H Q, t' st H Q → t st H Q) : PI X tg e t' := ⟨fun pins s st H R I q => h.run pins s st H R I (k st H R q)⟩
theorem glob_of (hs : X.env.scope = sc) {x : Str} (h : gloB sc x = true) : Gl X x := by
  unfold gloB at h
  split at h
  · rename_i e
    show X.env.scope.names.lookup x = some .globalImplicit
    rw [hs]
    exact e
  · cases h
theorem vis_of (hs : X.env.scope = sc) {x : Str} (h : visB sc x = true) : Vis X.env.scope x := by
  unfold visB at h
  rw [hs]
  split at h
  · exact .inl (by assumption)
  · exact .inr (.inl (by assumption))
  · exact .inr (.inr (by assumption))
  · cases h
theorem blt_of (hs : X.env.scope = sc) (G : GOk g X.K X.mg) {x : Str} (h : isBlt g sc x = true) : Gl X x ∧ X.mg x = none := by
  obtain ⟨h1, h2⟩ := Bool.and_eq_true_iff.mp h
  refine ⟨glob_of hs h1, ?_⟩
  split at h2
  · rename_i e
    exact G.blt x e
  · cases h2
theorem evL_one {ev : IE → LS → LH → Res Val} {i : IE} {st : L2.St} {H : Hp} {Q : List V → Hp → Prop} (t : tOfL X.K ca W (evL ev [i]) st H Q) : tOf X.K ca W (ev i) st H (fun x H1 => Q [x] H1) := by
  obtain ⟨ia, sl, h, R, S, r, q⟩ := t
  refine ⟨ia, sl, h, R, S, r, ?_⟩
  have e : evL ev [i] sl h = (ev i sl h).bind fun v h1 => .ok [v] h1 := rfl
  rw [e] at q
  cases e2 : ev i sl h with
  | bad => rw [e2] at q; exact q
  | exc c v h' => rw [e2] at q; exact q
  | ok v h1 =>
    rw [e2] at q
    exact fun ka H' x g R' r' => q ka H' [x] g R' (.cons r' .nil)
theorem src_seq {tg e : Expr} {ev : IE → LS → LH → Res Val} {i : IE} (he : PE X e (tOf X.K ca W (ev i))) : PI X tg e (tSrc X.K ca W (srcM 0 (evL ev [i]))) := by
  refine pi_imp (pi_seq he) fun st H R t => ?_
  refine tC.mono (evL_one (tSrc.parts t)) fun x H1 ⟨ia, h, vs, s, Re, rv, ms, q⟩ => ?_
  cases rv with
  | cons rx rv =>
    cases rv
    rename_i v
    have ms' : (if ((seqL v h).isSome || (seqT v).isSome) then some (Src.seq v) else none) = some s := ms
    split at ms'
    · rename_i hs
      cases ms'
      rcases (Bool.or_eq_true _ _).mp hs with hs | hs
      · obtain ⟨xs, e1⟩ := Option.isSome_iff_exists.mp hs
        obtain ⟨a, ys, rfl, hq, _⟩ := seqL_ok Re e1 rx
        refine ⟨a, rfl, .inl ⟨⟨ys, hq⟩, q _ ⟨a, rx, .inl ⟨?_, rfl⟩⟩⟩⟩
        cases v <;> first | rfl | cases e1
      · obtain ⟨xs, e1⟩ := Option.isSome_iff_exists.mp hs
        obtain ⟨a, ys, rfl, hq, _⟩ := seqT_ok e1 rx
        refine ⟨a, rfl, .inr ⟨⟨ys, hq⟩, q _ ⟨a, rx, .inr ⟨?_, rfl⟩⟩⟩⟩
        cases v <;> first | rfl | cases e1
    · cases ms'
theorem isL_of {v : Val} {h : LH} (e : (seqL v h).isSome = true) : isL v = true := by
  cases v <;> first | rfl | cases e
theorem d_src {f : Expr → Option IE} {ev : IE → LS → LH → Res Val} (hs : X.env.scope = sc) (G : GOk g X.K X.mg) (hf : ∀ e ie, f e = some ie → PE X e (tOf X.K ca W (ev ie))) {tg iter : Expr} {k : Nat} {es : List IE}
    (h : trI g sc f tg iter = some (k, es)) : PI X tg iter (tSrc X.K ca W (srcM k (evL ev es))) := by
  have seq : (f iter).map (fun i => (0, [i])) = some (k, es) → PI X tg iter (tSrc X.K ca W (srcM k (evL ev es))) := by
    intro z
    obtain ⟨i, e1, e2⟩ := Option.map_eq_some_iff.mp z
    cases e2
    exact src_seq (hf iter i e1)
  unfold trI at h
  split at h
  · rename_i x p a p2
    split at h
    · rename_i hx
      subst hx
      split at h
      · rename_i hb
        obtain ⟨hb, hst⟩ := Bool.and_eq_true_iff.mp hb
        obtain ⟨hg, hm⟩ := blt_of hs G hb
        obtain ⟨i, e1, e2⟩ := Option.map_eq_some_iff.mp h
        cases e2
        have hst' := star_cons (X := X) (es := []) hst
        refine pi_imp (pi_range1 hg hm (d_cons hst (hf a i e1) d_nil) hst') fun st H R t => ?_
        refine tCL.mono (tSrc.parts (m := evL ev [i]) t) fun xs H1 ⟨ia, h, vs, s, Re, rv, ms, q⟩ => ?_
        have ms' : mkS1 vs = some s := ms
        unfold mkS1 at ms'
        split at ms'
        · rename_i j
          obtain ⟨y, rfl, r1⟩ := rvs1 rv
          cases r1
          split at ms'
          · rename_i hj
            cases ms'
            exact ⟨j, rfl, hj.1, hj.2, q _ rfl⟩
          · cases ms'
        · cases ms'
      · cases h
    · split at h
      · rename_i hx
        subst hx
        split at h
        · rename_i hb
          obtain ⟨hb, ht⟩ := Bool.and_eq_true_iff.mp hb
          obtain ⟨hb, hst⟩ := Bool.and_eq_true_iff.mp hb
          obtain ⟨hg, hm⟩ := blt_of hs G hb
          obtain ⟨i, e1, e2⟩ := Option.map_eq_some_iff.mp h
          cases e2
          have hst' := star_cons (X := X) (es := []) hst
          cases tg with
          | Tuple elts kk tp =>
            refine pi_imp (pi_enum hg hm (d_cons hst (hf a i e1) d_nil) hst') fun st H R t => ?_
            refine tCL.mono (tSrc.parts (m := evL ev [i]) t) fun xs H1 ⟨ia, h, vs, s, Re, rv, ms, q⟩ => ?_
            have ms' : mkS3 vs h = some s := ms
            unfold mkS3 at ms'
            split at ms'
            · rename_i v
              obtain ⟨y, rfl, r1⟩ := rvs1 rv
              split at ms'
              · rename_i hj
                cases ms'
                obtain ⟨zs, e1⟩ := Option.isSome_iff_exists.mp hj
                obtain ⟨b, ys, rfl, hq, _⟩ := seqL_ok Re e1 r1
                exact ⟨b, ys, rfl, hq, q _ ⟨b, r1, isL_of hj, rfl⟩⟩
              · cases ms'
            · cases ms'
          | _ => cases ht
        · cases h
      · exact seq h
  · rename_i x p a b p2
    split at h
    · rename_i hx
      subst hx
      split at h
      · rename_i hb
        obtain ⟨hb, hst2⟩ := Bool.and_eq_true_iff.mp hb
        obtain ⟨hb, hst⟩ := Bool.and_eq_true_iff.mp hb
        obtain ⟨hg, hm⟩ := blt_of hs G hb
        split at h
        · rename_i i j e1 e2
          cases h
          have h1 := star_cons (X := X) (es := [b]) hst
          have h2 := star_cons (X := X) (es := []) hst2
          refine pi_imp (pi_range2 hg hm (d_cons hst (hf a i e1) (d_cons hst2 (hf b j e2) d_nil)) (by rw [h1, h2]; rfl) h2) fun st H R t => ?_
          refine tCL.mono (tSrc.parts (m := evL ev [i, j]) t) fun xs H1 ⟨ia, h, vs, s, Re, rv, ms, q⟩ => ?_
          have ms' : mkS2 vs = some s := ms
          unfold mkS2 at ms'
          split at ms'
          · obtain ⟨y, z, rfl, r1, r2⟩ := rvs2 rv
            cases r1; cases r2
            split at ms'
            · rename_i hj
              cases ms'
              exact ⟨_, _, rfl, hj, q _ rfl⟩
            · cases ms'
          · cases ms'
        · cases h
      · cases h
    · split at h
      · rename_i hx
        subst hx
        split at h
        · rename_i hb
          obtain ⟨hb, ht⟩ := Bool.and_eq_true_iff.mp hb
          obtain ⟨hb, hst2⟩ := Bool.and_eq_true_iff.mp hb
          obtain ⟨hb, hst⟩ := Bool.and_eq_true_iff.mp hb
          obtain ⟨hg, hm⟩ := blt_of hs G hb
          split at h
          · rename_i i j e1 e2
            cases h
            have h1 := star_cons (X := X) (es := [b]) hst
            have h2 := star_none (X := X) (pos := p2) (es := [b]) fun y hy => by
              have e : y = b := by simpa using hy
              rw [e]; exact hst2
            cases tg with
            | Tuple elts kk tp =>
              refine pi_imp (pi_zip hg hm (d_cons hst (hf a i e1) (d_cons hst2 (hf b j e2) d_nil)) h1 h2) fun st H R t => ?_
              refine tCL.mono (tSrc.parts (m := evL ev [i, j]) t) fun xs H1 ⟨ia, h, vs, s, Re, rv, ms, q⟩ => ?_
              have ms' : mkS4 vs h = some s := ms
              unfold mkS4 at ms'
              split at ms'
              · rename_i v w
                obtain ⟨y, z, rfl, r1, r2⟩ := rvs2 rv
                split at ms'
                · rename_i hj
                  cases ms'
                  obtain ⟨hj1, hj2⟩ := Bool.and_eq_true_iff.mp hj
                  obtain ⟨zs, e1⟩ := Option.isSome_iff_exists.mp hj1
                  obtain ⟨zs2, e12⟩ := Option.isSome_iff_exists.mp hj2
                  obtain ⟨b1, ys, rfl, hq, _⟩ := seqL_ok Re e1 r1
                  obtain ⟨b2, ys2, rfl, hq2, _⟩ := seqL_ok Re e12 r2
                  exact ⟨b1, b2, ys, ys2, rfl, hq, hq2, q _ ⟨b1, b2, r1, r2, isL_of hj1, isL_of hj2, rfl⟩⟩
                · cases ms'
              · cases ms'
            | _ => cases ht
          · cases h
        · cases h
      · exact seq h
  · split at h
    · exact seq h
    · cases h
/-! ### a comprehension -/
theorem d_lc {G : Prg} {n d : Nat} {tg : ITg} {tge iter elt : Expr} {ifs : List Expr} {scope : Scope} {own : List (Str × Nat)} {pos : Pos} {k : Nat} {iifs : List IE} {ielt : IE} {mS : M (List Val)}
    (hc : X.calm = true) (hN : X.N.Nodup) (ok : BlkOk X.N X.env.scope scope own) (hown : ∀ i ∈ slots tg, i ∈ own.map (·.2)) (hset : noSet iter = true)
    (hi : PI X tge iter (tSrc X.K ca W (srcM k mS)))
    (hg : ∀ (s : Shared) (H : Hp) (C : Addr) (cl : List (Str × Addr)) (fp : List Addr), PG (X.blk s H scope (compEnvC scope cl C X.env) fp) tge (gB X.K ca tg))
    (ht : ∀ m, m ≤ n → ∀ (s : Shared) (H : Hp) (C : Addr) (cl : List (Str × Addr)) (fp : List Addr), PTs (X.blk s H scope (compEnvC scope cl C X.env) fp) ifs (tOfB X.K ca W0 (tsIf ((run G m).t d) iifs)))
    (he : ∀ m, m ≤ n → ∀ (s : Shared) (H : Hp) (C : Addr) (cl : List (Str × Addr)) (fp : List Addr), PE (X.blk s H scope (compEnvC scope cl C X.env) fp) elt (tOf X.K ca W0 ((run G m).e d ielt))) :
    PE X (.ListComp elt [⟨tge, iter, ifs, 0⟩] scope pos) (tOf X.K ca W (fun sl h => (mS sl h).bind fun vs h1 => match mkSrc k vs h1 with
      | some s => (run G n).l d tg iifs ielt (own.map (·.2)) s 0 h1.length (wipeL sl (own.map (·.2))) (h1 ++ [.lst []])
      | none => .bad)) := by
  refine pe_imp (pe_lc (g := gB X.K ca tg) (tt := fun st H Q => ∃ m, m ≤ n ∧ tOfB X.K ca W0 (tsIf ((run G m).t d) iifs) st H Q) (te := fun st H Q => ∃ m, m ≤ n ∧ tOf X.K ca W0 ((run G m).e d ielt) st H Q) hc hN hi ok hg
    (fun s H C cl fp => ⟨fun pins s' st H' Q I ⟨m, hm, t⟩ => (ht m hm s H C cl fp).run pins s' st H' Q I t⟩) (fun s H C cl fp => ⟨fun pins s' st H' Q I ⟨m, hm, t⟩ => (he m hm s H C cl fp).run pins s' st H' Q I t⟩) ?_) fun st H Q t => lc_read mS hown t
  intro x
  cases iter <;> first | rfl | cases hset
end
end Mi

set_option Elab.async false
set_option linter.all false
set_option maxRecDepth 100000
set_option maxHeartbeats 2000000
/-! E1: an own exception over ValueError whose __init__ says super().__init__(value); self.value = value. -/
namespace Mi
open PySem PySem.W PySem.Calls PyProof.Rows
/-- the body of such an __init__ -/
def initBody (p0 p1 p2 p3 p4 p5 p6 p7 p8 p9 : Pos) : List Stmt :=
  [.Expr (.Call (.Attribute (.Call (.Name "super" p0) [] [] p1) "__init__" p2) [.Name "value" p3] [] p4) p5, .Assign [.Attribute (.Name "self" p6) "value" p7] (.Name "value" p8) p9]
/-- what the written part says of the class at C and of its __init__ at fI (written in the class at D) -/
structure ErrC (prog : Program) (K : Frag) (C fI D : Addr) : Prop where
  oex : L2.OexC K C
  init : findIn K (.ref C) "__init__" = some (some (.ref fI))
  tI : typeIn K (.ref fI) = some (.type "function")
  fn : ∃ (oc : Value) (od : Option Addr) (qual : Str) (params : Arguments) (scope : Scope) (kV doc pm : Value) (an : Option Addr) (ct : Value) (cc cda : Addr) (osl : Array (Option Value)) (p0 p1 p2 p3 p4 p5 p6 p7 p8 p9 : Pos),
    K.lookup fI = some ⟨oc, od, .func (ksFn "__init__" qual params (initBody p0 p1 p2 p3 p4 p5 p6 p7 p8 p9) scope .none kV doc pm an (.ref cda) ct cc), osl⟩ ∧ codeIn K (.ref cda) qual = true ∧
    (∀ a b : Value, bindArgs (ksFn "__init__" qual params (initBody p0 p1 p2 p3 p4 p5 p6 p7 p8 p9) scope .none kV doc pm an (.ref cda) ct cc) ⟨[a, b], []⟩ = pure [(("self" : Str), a), (("value" : Str), b)]) ∧
    (∃ ar, (params.posonlyargs ++ params.args).head? = some ar ∧ ar.arg = "self") ∧
    (∃ ccl cdd vs ccs file tf, K.lookup cda = some ⟨ccl, cdd, .fields vs, ccs⟩ ∧ vs[2]? = some (.str file tf) ∧ ((prog.main.file : Str) == file) = true) ∧
    (∃ cl cld csl, K.lookup cc = some ⟨cl, cld, .cell (some (.ref D)), csl⟩) ∧ (∃ cdD, clsIn K D = some cdD) ∧
    (∀ y ∈ scope.names, y.2 ≠ .cell) ∧ scope.isCoroutine = false ∧ scope.isGenerator = false ∧ scope.kind = .function ∧
    scope.names.lookup ("super" : Str) = some .globalImplicit ∧ scope.names.lookup ("__class__" : Str) = some .free ∧ scope.names.lookup ("self" : Str) = some .local ∧ scope.names.lookup ("value" : Str) = some .local ∧ (p2.endLine == p4.line) = true
  sub : mroIn K C (.ref D) = some true
  sup : nsIn K mainGlobals "super" = some none
  opq : nsIn K cStatics "thirdparty.any" = some none
  sin : ks_superIn K C D "__init__" = some (some (.builtin "ValueError.__init__"))
  ve : subIn K (.ref C) (.type "ValueError") = some true
  fld : findIn K (.ref C) "value" = some none
  top : (prog.main.scope.names.lookup ("super" : Str)).isSome = false
section
variable {prog : Program} {w : World} {K : Frag} {C fI D : Addr} {A : Around} {E : Value → Shared → Prop} {mg mb : Str → Option Value}
/-- ValueError.__init__ bound to the object at e, called -/
theorem call_mw {h : Heap} {g : Array GenState} {d : Drawn} {tk : Nat} {os : OsState} {u e t0 : Addr} {rest : List Value} {Q : Value → Shared → Prop} (T : L2.OexC K C) (X : K.In h) (hu : h.get? u = some (kxs_mw "ValueError.__init__" e)) (he : h.get? e = some (HandSPX.excO C t0)) (hz : rest.length ≤ sizeLine)
    (hq : ∀ h' t1, (∀ b o, b ≠ e → h.get? b = some o → h'.get? b = some o) → h'.get? e = some (HandSPX.excO C t1) → Q .none ⟨h', g, d, tk, os⟩) : wpAny (model prog w) A (call (.ref u) rest) Q E ⟨h, g, d, tk, os⟩ := by
  obtain ⟨nm, q, N, bs, bm, sn, sub, ab, col, dd, k0, k1, k2, k3, k5, hC, hbm⟩ := T.cls
  refine wpAny_call (codeAny_of_tree ?_)
  show wpAny _ A.in1 (callAny (.ref u) ⟨rest, []⟩) _ _ _
  simp only [callAny]
  refine wpAny_bind (wpAny_load hu ?_)
  simp only [kxs_mw, show (Value.type "method-wrapper" == Value.type "method" || Value.type "method-wrapper" == Value.type "builtin_function_or_method" || Value.type "method-wrapper" == Value.type "method-wrapper") = true by decide, if_true]
  refine KFB.if_so (by decide) ?_
  refine wpAny_bind (check_bound_init F.excBase_ValueError.toExcCallFacts (X _ _ hC) he rfl ?_)
  refine wpAny_bind (wpAny_pure (wpAny_pure ?_))
  refine ⟨plainId_quiet F.excBase_ValueError.init.plain _, codeAny_builtin F.excBase_ValueError.initEntry ?_⟩
  exact exc_init_tree (cls := .ref C) (t0 := t0) (dv := none) (c2 := .none) (c3 := .none) (b4 := .bool false) he hz fun h' k e' _ => hq h' _ k e'
/-- such an __init__ runs -/
theorem err_init (T : ErrC prog K C fI D) {s : Shared} {e t0 : Addr} {u : Value} {R : Result → Shared → Prop} (X : K.In s.heap) (hr : A.depth < recursionLimit) (lim : s.heap.NoLimit) (hg : s.heap.Ns mainGlobals mg) (hb : s.heap.Ns builtinsNs mb) (hbb : ∀ x : Str, x ≠ "__name__" → mb x = bootBuiltins x)
    (he : s.heap.get? e = some (HandSPX.excO C t0)) (ek : K.lookup e = none)
    (hq : ∀ h' tk dx t1, (∀ b o, b ≠ e → s.heap.get? b = some o → h'.get? b = some o) → s.heap.objs.size ≤ dx → dx ≠ e → h'.get? e = some { cls := .ref C, dict := some dx, data := .fields #[.ref t1, .none, .none, .none, .bool false, .none] } →
      h'.Ns1 dx (fun y => if y = ("value" : Str) then some u else none) → R (.ok (.ret .none)) { s with heap := h', toks := tk }) :
    codeAny (model prog w) A (.call (.ref fI) ⟨[.ref e, u], []⟩) R s := by
  obtain ⟨oc, od, qual, params, scope, kV, doc, pm, an, ct, cc, cda, osl, p0, p1, p2, p3, p4, p5, p6, p7, p8, p9, lk, hcd, hbi, ⟨ar, har, har2⟩, ⟨ccl, cdd, vs, ccs, file, tf, hcode, hvs, hfile⟩, ⟨cl, cld, csl, hcell⟩, ⟨cdD, hD⟩, nocell, hco, hgen, hk, ns, nc, nse, nv, hline⟩ := T.fn
  obtain ⟨nm, q, N, bs, bm, sn, sub, ab, col, dd, k0, k1, k2, k3, k5, hC, hbm⟩ := T.oex.cls
  have hcl : clsIn K C = some { name := nm, bases := bs, mro := .ref C :: bm, ns := N, qualname := q, hasDict := true, slotNames := sn, subclasses := sub, abstract := ab, collection := col, hasDel := false } := by unfold clsIn; rw [hC] <;> rfl
  refine ks_codeAny_call_defAt (fd := ksFn "__init__" qual params (initBody p0 p1 p2 p3 p4 p5 p6 p7 p8 p9) scope .none kV doc pm an (.ref cda) ct cc) (body := initBody p0 p1 p2 p3 p4 p5 p6 p7 p8 p9) (binds := [("self", .ref e), ("value", u)]) hr (X _ _ lk) rfl lim (codeRec_of X hcd) rfl (.of_eq (hbi _ _)) nocell (fun y hy => ?_) (fun h1 hns1 k1' => ?_) hco hgen hk
  · rcases List.mem_cons.mp hy with rfl | hy
    · exact nse
    · rcases List.mem_cons.mp hy with rfl | hy
      · exact nv
      · cases hy
  · have X1 : K.In h1 := X.keeps k1'
    have he1 := k1' _ _ he
    obtain ⟨oD, hD1, hD2⟩ : ∃ oD, h1.get? D = some oD ∧ oD.data = .cls cdD := by
      unfold clsIn at hD
      split at hD
      · rename_i c d cd' sl ho
        cases hD
        exact ⟨_, X1 _ _ ho, rfl⟩
      · cases hD
    have hLe : s.heap.objs.size ≠ e := fun z => by
      have y := Heap.lt_size he
      rw [← z] at y
      exact absurd y (Nat.lt_irrefl _)
    obtain ⟨env, henv⟩ : ∃ env, env = callEnv (ksFn "__init__" qual params (initBody p0 p1 p2 p3 p4 p5 p6 p7 p8 p9) scope .none kV doc pm an (.ref cda) ct cc) s.heap.objs.size fI := ⟨_, rfl⟩
    have hev : eval (.Call (.Attribute (.Call (.Name "super" p0) [] [] p1) "__init__" p2) [.Name "value" p3] [] p4) env = (do
        let ov ← attributeBase (.Call (.Name "super" p0) [] [] p1) "__init__" env (eval (.Call (.Name "super" p0) [] [] p1) env)
        standAt p2.atName
        let (f, first) ← holding [ov] (getMethod ov "__init__" (L2.plainOf (.Call (.Name "super" p0) [] [] p1) env))
        callWith p4 f first (backTo p4 (starEach [.Name "value" p3] env)) []) := by
      have e1 : ∀ ov, methodCall (.Call (.Name "super" p0) [] [] p1) "__init__" p2 p4 env ov 1 (backTo p4 (starEach [.Name "value" p3] env)) [] = (do
        let (f, first) ← holding [ov] (getMethod ov "__init__" (L2.plainOf (.Call (.Name "super" p0) [] [] p1) env))
        callWith p4 f first (backTo p4 (starEach [.Name "value" p3] env)) []) := fun ov => L2.mcall_line rfl hline
      show (do
        let ov ← attributeBase (.Call (.Name "super" p0) [] [] p1) "__init__" env (eval (.Call (.Name "super" p0) [] [] p1) env)
        standAt p2.atName
        methodCall (.Call (.Name "super" p0) [] [] p1) "__init__" p2 p4 env ov 1 (backTo p4 (starEach [.Name "value" p3] env)) []) = _
      simp only [e1]
    refine ks_wpAt_execs_cons (ks_wpAt_Expr_any (ks_wpAt_MethodCall ?_ (by rw [← henv]; exact hev)) (by show (scope.kind == .module && _) = false; rw [hk]; rfl))
    refine ks_wpAt_super_base (env := callEnv (ksFn "__init__" qual params (initBody p0 p1 p2 p3 p4 p5 p6 p7 p8 p9) scope .none kV doc pm an (.ref cda) ct cc) s.heap.objs.size fI) ns nc (by decide) rfl (X1 _ _ lk) rfl har rfl (X1 _ _ hcode) rfl hvs hfile T.top ?_
    refine ks_loadName_global hk ns (loadGlobal_builtin (hg.keeps k1') (mg_none_of X hg T.sup) (hb.keeps k1') ((hbb _ (by decide +kernel)).trans (by decide +kernel : bootBuiltins "super" = some (.type "super"))) ⟨rfl, ?_⟩)
    refine wpAny_loadName_free hk nc rfl ⟨_, X1 _ _ hcell, rfl⟩ ?_
    rw [har2]
    refine wpAny_loadName_local hk nse hns1 rfl ?_
    refine ks_wpAny_isType_cls hD1 hD2 ⟨rfl, ?_⟩
    refine ks_wpAny_call_super hD1 hD2 he1 rfl (fun c z => by cases z) (looks_mroIn X1 T.sub) (fun h2 e2 k2' => ?_)
    have X2 : K.In h2 := X1.keeps k2'
    have he2 := k2' _ _ he1
    have sin := T.sin
    unfold ks_superIn at sin
    rw [hcl] at sin
    have I2 : InstAt h2 e (HandSPX.excO C t0) C none := ⟨he2, rfl, rfl, trivial⟩
    refine kxs_getMethod kxs_ValueError e2 (looks_opaque X2 T.opq) (l₀ := .ref C :: bm) (fun A Q E s k q => wpAny_bind ((looks_clsIn X2 hcl) A _ E s k (wpAny_pure q))) rfl X2 sin (I2.type.andThen (looks_subIn X2 T.ve)) (ks_ne X2 I2 hcl) (by decide) ?_
    have hu2 : (h2.push (kxs_mw "ValueError.__init__" e)).get? h2.objs.size = some (kxs_mw "ValueError.__init__" e) := Heap.get?_push_at rfl rfl
    have k3' : ∀ b o, h2.get? b = some o → (h2.push (kxs_mw "ValueError.__init__" e)).get? b = some o := fun b o q => Heap.get?_push_of_some _ q
    have X3 : K.In (h2.push (kxs_mw "ValueError.__init__" e)) := X2.keeps k3'
    have hns3 : (h2.push (kxs_mw "ValueError.__init__" e)).Ns s.heap.objs.size (fun x => List.lookup x [(("self" : Str), Value.ref e), (("value" : Str), u)].reverse) := (hns1.keeps k2').keeps k3'
    refine kxs_callWith (i := "ValueError.__init__") (x := e) rfl (evalArgs_plain ?_)
    show wpAny _ _ (spliced [(false, eval (.Name "value" p3) _)]) _ _ _
    refine spliced_cons (wpAny_Name (wpAny_loadName_local hk nv hns3 rfl ?_) (by decide))
    refine spliced_nil ⟨hu2, ?_⟩
    refine call_mw T.oex X3 hu2 (k3' _ _ he2) (show 1 ≤ sizeLine by decide) fun h4 t1 k4 he4 => ?_
    have hns4 : h4.Ns s.heap.objs.size (fun x => List.lookup x [(("self" : Str), Value.ref e), (("value" : Str), u)].reverse) := by
      obtain ⟨o, es, ep, z, r⟩ := hns3
      exact ⟨o, es, ep, k4 _ _ hLe z, r⟩
    have X4 : K.In h4 := fun b o z => k4 b o (fun y => by
      have q1 : K.lookup b = some o := z
      rw [y, ek] at q1
      cases q1) (X3 _ _ z)
    refine ks_wpAt_execs_cons (ks_wpAt_Assign_Attr ?_ rfl)
    refine wpAt_of_wpAny (wpAny_Name (wpAny_loadName_local hk nv hns4 rfl ?_) (by decide))
    refine wpAny_Name (wpAny_loadName_local hk nse hns4 rfl ?_) (by decide)
    refine set_plain X4 (ox := HandSPX.excO C t1) (od := none) ⟨he4, rfl, rfl, trivial⟩ T.oex.sa ?_
    refine HandSPX.exc_osa X4 he4 hcl (show HandSPX.refsVE (.ref C :: bm) = true from hbm) rfl T.fld (fun h5 tk' dx k5' dn dne hx hn => ?_)
    refine wpAt_of_wpAny (wpAny_execs_nil ?_)
    exact hq h5 tk' dx t1 (fun b o hb z => k5' b o hb (k4 b o hb (k3' b o (k2' b o (k1' b o z))))) (Nat.le_trans (by obtain ⟨o, es, ep, z, r⟩ := hns4; exact Nat.le_of_lt (Heap.lt_size z)) dn) dne hx hn
end
end Mi

set_option Elab.async false
set_option linter.all false
set_option maxRecDepth 100000
set_option maxHeartbeats 2000000
/-! R1: repr, own exceptions, isinstance. -/
namespace Mi
open PySem L2 PyProof.Rows
/-! ### repr -/
section
variable {X : Cx} {ca : Str → Addr} {ia : List Addr} {H : Hp} {h : LH} {pins : List (Addr × Obj)} {s : Shared} {st : L2.St}
abbrev RdF (s : Shared) (f : Val → Option PyData) (K : PySem.W.Frag) (ia : List Addr) (H : Hp) : Prop := ∀ (v : Val) (x : V) (u : Value) (d : PyData), f v = some d → RV K ia H v x → RelV x u → ∃ as, Reads s.heap u d as ∧ sysModules ∉ as
theorem rdAll {f : Val → Option PyData} (hf : RdF s f X.K ia H) : ∀ {vs : List Val} {xs : List V} {us : List Value} {ds : List PyData}, mapO f vs = some ds → RVs X.K ia H vs xs → Vals xs us → ∃ as, ReadsAll s.heap us ds as ∧ sysModules ∉ as
  | _, _, _, _, e, .nil, r => by
    cases e
    cases r
    exact ⟨_, .nil, by simp⟩
  | v :: vs, x :: xs, us, ds, e, .cons q t, r => by
    unfold mapO at e
    split at e
    · rename_i d ds' e1 e2
      cases e
      cases r with
      | cons r1 r2 =>
        obtain ⟨as, h1, n1⟩ := hf v x _ d e1 q r1
        obtain ⟨bs, h2, n2⟩ := rdAll hf e2 t r2
        exact ⟨_, .cons h1 h2, by simp [n1, n2]⟩
    · cases e
theorem rdKv {f : Val → Option PyData} (hf : RdF s f X.K ia H) {P : Program} {w : World} : ∀ {kvs : List (Key × Val)} {kws : List (Key × V)} {kus : List (Key × Value)} {es : List DictEntry} {ds : List (PyData × PyData)}, mapKv f kvs = some ds → RKV X.K ia H kvs kws → KV kws kus → Pairs (mixKind P w) es kus →
    ∃ as bs, ReadsAll s.heap (es.map (·.key)) (ds.map (·.1)) as ∧ ReadsAll s.heap (es.map (·.val)) (ds.map (·.2)) bs ∧ sysModules ∉ as ∧ sysModules ∉ bs
  | _, _, _, _, _, e, .nil, r, p => by
    cases e
    cases r
    cases p
    exact ⟨_, _, .nil, .nil, by simp, by simp⟩
  | (k, v) :: kvs, (_, x) :: kws, kus, es, ds, e, .cons q t, r, p => by
    unfold mapKv at e
    split at e
    · rename_i d ds' e1 e2
      cases e
      cases r with
      | cons r1 r2 =>
        cases p with
        | cons p1 p2 p3 =>
          obtain ⟨as, h1, n1⟩ := hf v x _ d e1 q r1.2
          rw [← p2] at h1
          obtain ⟨bs, cs, h2, h3, n2, n3⟩ := rdKv hf e2 t r2 p3
          rw [← r1.1] at p1
          rcases keyIs_shape (show keyIs k _ = true from p1) with ⟨i, t, rfl, ek⟩ | ⟨z, t, rfl, ek⟩
          · have hk : Reads s.heap _ (PyData.int i) [] := .int i t
            rw [← ek] at hk
            exact ⟨_, _, .cons hk h2, .cons h1 h3, by simp [n2], by simp [n1, n3]⟩
          · have hk : Reads s.heap _ (PyData.str z) [] := .str z t
            rw [← ek] at hk
            exact ⟨_, _, .cons hk h2, .cons h1 h3, by simp [n2], by simp [n1, n3]⟩
    · cases e
theorem toR_ok (I : Inv X pins st H s) (R : Rep X.K ca ia H h) (hs : ∃ o, X.K.lookup sysModules = some o ∧ o.cls = .type "dict") : ∀ n, RdF s (toR n h) X.K ia H
  | 0, _, _, _, _, e, _, _ => by cases e
  | n + 1, v, x, u, d, e, q, r => by
    have ih := toR_ok I R hs n
    obtain ⟨os, hs1, hs2⟩ := hs
    have hsh := I.kIn _ _ hs1
    cases q with
    | non => cases e; cases r; exact ⟨_, .none, by simp⟩
    | bl b => cases e; cases r; exact ⟨_, .bool b, by simp⟩
    | int i => cases e; obtain ⟨t, rfl⟩ := r; exact ⟨_, .int i t, by simp⟩
    | str z => cases e; obtain ⟨t, rfl⟩ := r; exact ⟨_, .str z t, by simp⟩
    | tup sq rs =>
      cases r
      obtain ⟨ds, e1, e2⟩ := Option.map_eq_some_iff.mp (show (mapO (toR n h) _).map PyData.tuple = some d from e)
      subst e2
      obtain ⟨its, rv, ⟨o, ho, hc, m, hd⟩, _⟩ := I.tuple (SqT.of sq)
      obtain ⟨as, h1, n1⟩ := rdAll ih e1 rs (show Vals _ its from rv)
      exact ⟨_, .tuple ho hc hd (by simpa using h1), n1⟩
    | @loc m a hm =>
      cases r
      have e' : (match h[m]? with
        | some (.lst xs) => (mapO (toR n h) xs).map PyData.list
        | some (.dK kvs) => (mapKv (toR n h) kvs).map PyData.dict
        | _ => none) = some d := e
      split at e'
      · rename_i xs em
        obtain ⟨ds, e1, e2⟩ := Option.map_eq_some_iff.mp e'
        subst e2
        obtain ⟨ys, q1, q2⟩ := R.ob m _ _ em hm
        obtain ⟨its, k, rv, ho, _⟩ := I.lst q1
        obtain ⟨as, h1, n1⟩ := rdAll ih e1 q2 rv
        refine ⟨_, .list ho rfl rfl (by simpa using h1), ?_⟩
        rw [List.mem_cons, not_or]
        refine ⟨fun z => ?_, n1⟩
        rw [← z, hsh] at ho
        have ho' := Option.some.inj ho
        rw [ho'] at hs2
        exact absurd (show Value.type "list" = Value.type "dict" from hs2) (by decide)
      · rename_i kvs em
        obtain ⟨ds, e1, e2⟩ := Option.map_eq_some_iff.mp e'
        subst e2
        obtain ⟨kws, q1, q2⟩ := R.ob m _ _ em hm
        obtain ⟨_, hne, vs, kv, o, es, ep, ho, hx, hd, _, hp, _⟩ := I.hok a _ q1
        obtain ⟨as, bs, h1, h2, n1, n2⟩ := rdKv ih e1 q2 kv hp
        refine ⟨_, .dict ho hx.1 hd h1 h2, ?_⟩
        have ne : ¬ sysModules = a := fun z => by
          rw [← z] at hne
          simp at hne
        simp [ne, n1, n2]
      · cases e'
    | _ => cases e
theorem cv_repr (hg : X.A.guards = some []) (hu : X.A.units + 200 < cLine) (hs : ∃ o, X.K.lookup sysModules = some o ∧ o.cls = .type "dict") :
    CallR X (.builtin "repr") (fun xs H Q => ∃ (ia : List Addr) (h : LH) (v : Val) (x : V) (E : XK), xs = [x] ∧ Rep X.K ca ia H h ∧ RV X.K ia H v x ∧ Want X.K ca ia H (vRep v h) Q E) := by
  intro pins s st H xs us Q I r hh
  obtain ⟨ia, h, v, x, E, rfl, R, rv, w⟩ := hh
  cases r with
  | cons rx rr =>
    cases rr
    unfold vRep at w
    split at w
    · rename_i d ed
      obtain ⟨c, w⟩ := chk_ok w
      simp only [Bool.and_eq_true, decide_eq_true_eq] at c
      obtain ⟨⟨c1, c2⟩, c3⟩ := c
      obtain ⟨as, rd, ns⟩ := toR_ok I R hs 40 v x _ d ed rv rx
      have q : Q (.str d.shown) H := w.now R (.str _)
      cases rd with
      | none => exact P.repr_of_none ⟨.str _, H, I.tok _, ⟨_, rfl⟩, q⟩
      | bool b => exact P.repr_of_bool ⟨.str _, H, I.tok _, ⟨_, rfl⟩, q⟩
      | int i t => exact P.repr_of_int (of_decide_eq_true c1) ⟨.str _, H, I.tok _, ⟨_, rfl⟩, q⟩
      | str z t => exact P.repr_of_str ⟨.str _, H, I.tok _, ⟨_, rfl⟩, q⟩ c2
      | list h1 h2 h3 h4 => exact repr_of_reads' (Reads.list h1 h2 h3 h4) c1 (fun _ => ns) hg (by omega) (fun _ _ z => z) (fun h' u tk k => ⟨.str _, H, I.kept (t' := tk) k, ⟨_, rfl⟩, q⟩) c2
      | tuple h1 h2 h3 h4 => exact repr_of_reads' (Reads.tuple h1 h2 h3 h4) c1 (fun _ => ns) hg (by omega) (fun _ _ z => z) (fun h' u tk k => ⟨.str _, H, I.kept (t' := tk) k, ⟨_, rfl⟩, q⟩) c2
      | dict h1 h2 h3 h4 h5 => exact repr_of_reads' (Reads.dict h1 h2 h3 h4 h5) c1 (fun _ => ns) hg (by omega) (fun _ _ z => z) (fun h' u tk k => ⟨.str _, H, I.kept (t' := tk) k, ⟨_, rfl⟩, q⟩) c2
    · exact (show False from w).elim
end
end Mi

set_option Elab.async false
set_option linter.all false
set_option maxRecDepth 100000
set_option maxHeartbeats 2000000
/-! R2: own exceptions made, read, asked. -/
namespace Mi
open PySem L2 PyProof.Rows
/-- what is asked of an own exception class at C -/
structure ErrK (P : Program) (K : PySem.W.Frag) (C : Addr) : Prop where
  made : ∃ fI D, ErrC P K C fI D
  xf : XfC K C
  ic : ExcC K C
  nv : PySem.W.findIn K (.ref C) "value" = some none
section
variable {X : Cx} {C : Addr} {e : Expr} {te : TE} {x : Str} {p pos : Pos}
def tMkE (C : Addr) (te : TE) : TE := fun st H Q => te st H fun y H1 => ∀ a d, H1 a = none → H1 d = none → d ≠ a → Q (.ref a) (upd (upd H1 d (exd d [("value", y)])) a (exo a C (some d)))
theorem pe_mkE (T : ErrK X.prog X.K C) (hr : Room 0 X.A) (hg : Gl X x) (hm : X.mg x = some (.ref C)) (he : PE X e te) (hst : noStar e = true) (hn : okN x = true) : PE X (.Call (.Name x p) [e] [] pos) (tMkE C te) := by
  obtain ⟨fI, D, TE⟩ := T.made
  have T := TE.oex
  refine ⟨fun pins s st H Q I h => ?_⟩
  have ha : PA X [e] (tCons te tNil) := pa_cons he pa_nil (star_cons hst)
  obtain ⟨nm, q, N, bs, bm, sn, sub, ab, col, dd, k0, k1, k2, k3, k5, hC, hbm⟩ := T.cls
  refine wpAny_Call_Name_kw (ld_glob I hg hm ?_ (okN_d hn).1)
  refine PySem.W.callWith_K (h₀ := X.base) I.ok.mod.kin T.kC (thn (ha.run pos pins s st H (fun vs H1 => match vs with
    | [y] => ∀ a d, H1 a = none → H1 d = none → d ≠ a → Q (.ref a) (upd (upd H1 d (exd d [("value", y)])) a (exo a C (some d)))
    | _ => False) I h) fun us s1 ⟨vs, H1, I1, r1, q0⟩ => ⟨I1.kIn, ?_⟩) (star_cons hst) rfl
  obtain ⟨y, ev, q1⟩ : ∃ y, vs = [y] ∧ ∀ a d, H1 a = none → H1 d = none → d ≠ a → Q (.ref a) (upd (upd H1 d (exd d [("value", y)])) a (exo a C (some d))) := by
    match vs, q0 with
    | [y], q0 => exact ⟨y, rfl, q0⟩
  subst ev
  show wpAny _ _ (call (.ref C) us) _ _ _
  obtain ⟨u, rfl, ry⟩ : ∃ u, us = [u] ∧ RelV y u := by
    cases r1 with
    | cons a b =>
      cases b
      exact ⟨_, rfl, a⟩
  obtain ⟨mb, hb1, hb2⟩ := I1.mod.blt
  have lim := I1.nolimit
  have gl := I1.mod.glob.keeps I1.bk
  have bl := hb1.keeps I1.bk
  have KX := I1.kIn
  obtain ⟨hp, g, dr, tk, os⟩ := s1
  have kk : ∀ b o, hp.get? b = some o → ((hp.push (PySem.W.kdv_tup [u])).push (PySem.HandSPX.excO C hp.objs.size)).get? b = some o := fun b o e => Heap.get?_push_of_some _ (Heap.get?_push_of_some _ e)
  have hget : ((hp.push (PySem.W.kdv_tup [u])).push (PySem.HandSPX.excO C hp.objs.size)).get? (hp.objs.size + 1) = some (PySem.HandSPX.excO C hp.objs.size) := by heap_get
  have ek : X.K.lookup (hp.objs.size + 1) = none := by
    cases z : X.K.lookup (hp.objs.size + 1) with
    | none => rfl
    | some o =>
      have y := Heap.lt_size (KX _ _ z)
      exact absurd (Nat.lt_of_succ_lt y) (Nat.lt_irrefl _)
  refine wpAny_call (PySem.HandSPX.call_own F.excBase_ValueError (fun Y => PySem.HandSPX.refsVE_contains Y bm hbm) (KX _ _ hC) (PySem.W.looks_findIn KX TE.init) (fun self => PySem.W.bind_fn KX self TE.tI) (show 1 ≤ sizeLine by decide)
    (err_init TE (KX.keeps kk) (by rw [make_depth]; have := hr.dp; omega) (lim.keeps kk) (gl.keeps kk) (bl.keeps kk) hb2 hget ek fun h' tk' dx t1 k dn dne hx hns => ?_))
  refine ⟨rfl, ?_⟩
  have dn' : hp.objs.size + 2 ≤ dx := Nat.le_trans (Nat.le_of_eq (by simp [Heap.size_push])) dn
  have nd : ∀ {b : Addr} {o : Obj}, hp.get? b = some o → b ≠ hp.objs.size + 1 ∧ b ≠ dx := fun {b o} z => by
    have y := Heap.lt_size z
    exact ⟨Nat.ne_of_lt (Nat.lt_succ_of_lt y), Nat.ne_of_lt (Nat.lt_of_lt_of_le y (Nat.le_trans (Nat.le_add_right _ 2) dn'))⟩
  have kp : ∀ b o, hp.get? b = some o → h'.get? b = some o := fun b o z => k b o (nd z).1 (kk b o z)
  have hnx : H1 (hp.objs.size + 1) = none := I1.hok.fresh (Nat.le_succ _)
  have hnd : H1 dx = none := I1.hok.fresh (Nat.le_trans (Nat.le_add_right _ 2) dn')
  have out : ∀ {b : Addr} {o : HO}, H1 b = some o → upd (upd H1 dx (exd dx [("value", y)])) (hp.objs.size + 1) (exo (hp.objs.size + 1) C (some dx)) b = some o := fun {b o} z => by
    rw [upd_ne (ne_of_none z hnx), upd_ne (ne_of_none z hnd)]
    exact z
  refine ⟨.ref (hp.objs.size + 1), _, I1.un (t' := tk') (h' := h') (H' := upd (upd H1 dx (exd dx [("value", y)])) (hp.objs.size + 1) (exo (hp.objs.size + 1) C (some dx))) ⟨fun b o z _ _ _ => kp b o z, fun b o z _ _ _ => ⟨o.slots, kp b o z⟩, fun b o z n _ => ?_, fun b o z _ => ⟨o, kp b o z⟩, fun b xs z => out z, fun b o v z => out z, fun b ps z => ⟨#[], by rw [out z]; simp⟩⟩ (fun b o z => ?_), rfl, q1 _ dx hnx hnd dne⟩
  · rw [upd_ne (nd z).1, upd_ne (nd z).2]
    exact n
  · by_cases hb : b = hp.objs.size + 1
    · subst hb
      rw [upd_same] at z
      cases z
      exact exo_ok hx
    · rw [upd_ne hb] at z
      by_cases hd : b = dx
      · subst hd
        rw [upd_same] at z
        cases z
        refine exd_ok hns fun f => ?_
        have := relO_put (f := ("value" : Str)) (fs := []) (mA := fun _ => none) ry (fun g => True.intro) f
        exact this
      · rw [upd_ne hd] at z
        exact (I1.hok b o z).stay (fun c v _ y => kp c v y) (fun c hc => out hc) (fun c xs hc => out hc)
end
end Mi

set_option Elab.async false
set_option linter.all false
set_option maxRecDepth 100000
set_option maxHeartbeats 2000000
/-! R3: errors, isinstance, dict displays by their runs. -/
namespace Mi
open PySem L2 PyProof.Rows
section
variable {K : PySem.W.Frag} {ca : Str → Addr} {ia : List Addr} {H : Hp} {h : LH}
theorem Rep.anyNew (R : Rep K ca ia H h) {p : Addr} {u : HO} (n : H p = none) : Rep K ca ia (upd H p u) h ∧ Grow ia H [] (upd H p u) := by
  have k : Hold H (upd H p u) := Hold.new n
  refine ⟨⟨R.len, R.nd, fun m o a e1 e2 => ?_⟩, ⟨fun b o e _ => by rw [upd_ne (ne_of_none e n)]; exact e, fun b o e => ⟨o, by rw [upd_ne (ne_of_none e n)]; exact e⟩, fun _ z => nomatch z⟩⟩
  have q := R.ob m o a e1 e2
  have ne : a ≠ p := fun z => by
    rw [z] at q
    cases o with
    | lst _ => obtain ⟨_, q, _⟩ := q; rw [n] at q; cases q
    | dK _ => obtain ⟨_, q, _⟩ := q; rw [n] at q; cases q
    | dT _ => obtain ⟨_, q, _⟩ := q; rw [n] at q; cases q
    | ins _ _ => obtain ⟨_, _, q, _⟩ := q; rw [n] at q; cases q
  have z := q.stay (ka := []) k (upd_ne ne)
  rw [app_nil] at z
  exact z
end
section
variable {X : Cx} {ca : Str → Addr} {W : WS} {e : Expr} {pos p : Pos} {ma : M Val} {x : Str}
theorem d_mkE (T : ErrK X.prog X.K (He.ga X.K x)) (hr : Room 0 X.A) (hg : Gl X x) (hm : X.mg x = some (.ref (He.ga X.K x))) (hst : noStar e = true) (hn : okN x = true) (he : PE X e (tOf X.K ca W ma)) :
    PE X (.Call (.Name x p) [e] [] pos) (tOf X.K ca W (fun sl h => (ma sl h).bind fun v h1 => .ok (.err x v) h1)) := by
  refine pe_imp (pe_mkE T hr hg hm he hst hn) fun st H Q t => ?_
  refine (tC.step (f := fun v sl h1 => .ok (.err x v) h1) t).mono fun y H1 ⟨v, t1⟩ => ?_
  obtain ⟨ia, sl, h, R, S, r, q⟩ := t1
  intro a d na nd ne
  cases r with
  | cons ry _ =>
    obtain ⟨R1, g1⟩ := R.anyNew (u := exd d [("value", y)]) nd
    have na' : upd H1 d (exd d [("value", y)]) a = none := by rw [upd_ne (Ne.symm ne)]; exact na
    obtain ⟨R2, g2⟩ := R1.anyNew (u := exo a (He.ga X.K x) (some d)) na'
    have g := g1.trans (by rw [app_nil]; exact g2)
    refine q ([] ++ []) _ _ g (by rw [app_nil, app_nil]; exact R2) ?_
    refine .err upd_same (by rw [upd_ne ne]; exact upd_same) (ry.grow g R)
/-! ### .value -/
def tFldE (K : PySem.W.Frag) (te : TE) : TE := fun st H Q => te st H fun x H1 => ∃ (a C d : Addr) (v : V), x = .ref a ∧ XfC K C ∧ PySem.W.findIn K (.ref C) "value" = some none ∧ H1 a = some (exo a C (some d)) ∧ H1 d = some (exd d [("value", v)]) ∧ Q v H1
theorem pe_fldE {te : TE} (he : PE X e te) (hb : attributeBase e "value" X.env (eval e X.env) = eval e X.env) : PE X (.Attribute e "value" pos) (tFldE X.K te) := by
  refine ⟨fun pins s st H Q I h => ?_⟩
  refine attr_of hb (thn (he.run pins s st H _ I h) fun u s1 hh => ?_)
  obtain ⟨x, H1, I1, rx, a, C, d, v, ex, T, hno, ea, ed, q⟩ := hh
  subst ex
  obtain rfl : u = Value.ref a := rx
  obtain ⟨t1, ha⟩ := exo_at I1.hok ea
  obtain ⟨mA, hns, hr⟩ := exd_at I1.hok ed
  obtain ⟨od, ho, hl⟩ := lookIn_ns hns
  obtain ⟨u, hu, ru⟩ := RelO.some_of (v := v) (o := mA "value") (hr "value")
  have J : PySem.W.InstAt s1.heap a _ C (some od) := ⟨ha, rfl, rfl, ho⟩
  exact HandSPX.exc_get I1.kIn J T.ga T.gg T.exC (PySem.W.findObj_own T.hdC hno rfl (by rw [hl, hu])) (handed_of ru) ⟨v, H1, I1.tok _, ru, q⟩
theorem d_fld {errs : List Str} (T : ∀ c, errs.contains c = true → ErrK X.prog X.K (He.ga X.K c)) (hp : plainO e = true) (he : PE X e (tOf X.K ca W ma)) : PE X (.Attribute e "value" pos) (tOf X.K ca W (fun sl h => (ma sl h).bind fun v h1 => vFld errs v h1)) := by
  refine pe_imp (pe_fldE he (plain_base hp)) fun st H Q t => ?_
  refine (tC.step (f := fun v sl h1 => vFld errs v h1) t).mono fun y H1 ⟨v, t1⟩ => ?_
  obtain ⟨ia, sl, h, R, S, r, q⟩ := t1
  cases r with
  | cons ry _ =>
    dsimp only [vFld] at q
    split at q
    · obtain ⟨hc, q⟩ := chk_ok q
      cases ry with
      | err h1 h2 h3 => exact ⟨_, _, _, _, rfl, (T _ hc).xf, (T _ hc).nv, h1, h2, q.now R h3⟩
    · exact (show False from q).elim
/-! ### isinstance -/
def clV (K : PySem.W.Frag) : ClR → Value
  | .ty n => .type n
  | .own c => .ref (He.ga K c)
def clW (K : PySem.W.Frag) : ClR → V
  | .ty n => .ty n
  | .own c => .ref (He.ga K c)
def rIsD (K : PySem.W.Frag) : List V → Hp → VK → Prop := fun xs H Q => rIsi K xs H Q ∨ ∃ (a D : Addr) (d : Option Addr) (c : V) (u : Value) (b : Bool), xs = [.ref a, c] ∧ ClsV c u ∧ H a = some (exo a D d) ∧ (∃ d', d = some d' ∧ ∃ fs, H d' = some (exd d' fs)) ∧ ExcC K D ∧ PySem.W.kitOne K (.ref D) u = some b ∧ Q (.bl b) H
theorem call_isD : CallR X (.builtin "isinstance") (rIsD X.K) := by
  intro pins s st H xs us Q I r hh
  rcases hh with hh | ⟨a, D, d, c, u, b, rfl, k, ea, ⟨d', ed, fs, ed'⟩, C, e, q⟩
  · exact call_isi pins s st H xs us Q I r hh
  · cases r with
    | cons rx rr =>
      cases rr with
      | cons rt rr =>
        cases rr
        cases rx
        have e2 := k.eq rt
        subst e2
        subst ed
        obtain ⟨t1, ha⟩ := exo_at I.hok ea
        obtain ⟨mA, hns, hr⟩ := exd_at I.hok ed'
        obtain ⟨od, ho, hl⟩ := lookIn_ns hns
        have J : PySem.W.InstAt s.heap a _ D (some od) := ⟨ha, rfl, rfl, ho⟩
        exact PySem.W.kia_one (PySem.W.kitx_exc (by obtain ⟨cd, hc, _⟩ := PySem.W.any_some C.hd; rw [hc]; rfl) C.hg C.hk C.hs C.ha C.hn C.ht C.hm) I.kIn J e (fun z => nomatch z) fun tk => ⟨.bl b, H, I.kept (t' := tk) fun _ _ z => z, rfl, q⟩
theorem clsV_of (K : PySem.W.Frag) (c : ClR) : ClsV (clW K c) (clV K c) := by
  cases c with
  | ty n => exact .ty n
  | own x => exact .own _
theorem tyO_ok {ia : List Addr} {H : Hp} {h : LH} (R : Rep X.K ca ia H h) {v : Val} {x : V} {t : ClR} (e : tyO v h = some t) (r : RV X.K ia H v x) : TyX X.K H x (clV X.K t) ∨ ∃ (c : Str) (w : Val) (a d : Addr) (y : V), v = .err c w ∧ t = .own c ∧ x = .ref a ∧ H a = some (exo a (He.ga X.K c) (some d)) ∧ H d = some (exd d [("value", y)]) := by
  cases r with
  | non => cases e; exact .inl (.base .non)
  | bl b => cases e; exact .inl (.base (.bl b))
  | int i => cases e; exact .inl (.base (.int i))
  | str z => cases e; exact .inl (.base (.str z))
  | tup s _ => cases e; exact .inl (.base (.tup s))
  | ct s _ =>
    cases e
    obtain ⟨o, its, n, h1, h2, _⟩ := s
    exact .inl (.kTuple h1 h2)
  | @loc m a q =>
    have e' : (match h[m]? with
      | some (.lst _) => some (ClR.ty "list")
      | some (.dK _) => some (.ty "dict")
      | some (.dT _) => some (.ty "dict")
      | _ => none) = some t := e
    split at e'
    · rename_i em
      cases e'
      obtain ⟨ys, h1, h2⟩ := R.ob m _ _ em q
      exact .inl (.base (.lst h1))
    · rename_i em
      cases e'
      obtain ⟨ys, h1, h2⟩ := R.ob m _ _ em q
      exact .inl (.base (.dK h1))
    · rename_i em
      cases e'
      obtain ⟨ys, h1, h2⟩ := R.ob m _ _ em q
      exact .inl (.base (.dT h1))
    · cases e'
  | err h1 h2 _ => cases e; exact .inr ⟨_, _, _, _, _, rfl, rfl, rfl, h1, h2⟩
  | cl _ _ => cases e
theorem d_isi {T : List (ClR × List (ClR × Bool))} {errs : List Str} {c : ClR} {ce : Expr} (TE : ∀ c, errs.contains c = true → ErrK X.prog X.K (He.ga X.K c)) (TI : ∀ t c b, isiL T t c = some b → PySem.W.kitOne X.K (clV X.K t) (clV X.K c) = some b)
    (hg : Gl X "isinstance") (hm : X.mg "isinstance" = none) (hst : noStar e = true) (hst2 : noStar ce = true) (he : PE X e (tOf X.K ca W ma)) (hce : PE X ce (L2.tC (clW X.K c))) :
    PE X (.Call (.Name "isinstance" p) [e, ce] [] pos) (tOf X.K ca W (fun sl h => (ma sl h).bind fun v h1 => vIsi T errs c v h1)) := by
  have ha : PA X [e, ce] (tCons (tOf X.K ca W ma) (tCons (L2.tC (clW X.K c)) tNil)) := pa_cons he (pa_cons hce pa_nil (star_cons hst2)) (star_cons hst)
  refine pe_imp (pe_callB call_isD hg hm (by decide +kernel : bootBuiltins "isinstance" = some (.builtin "isinstance")) ha (by decide) (by decide) (star_cons hst) (star_none fun y hy => by
    rcases List.mem_cons.mp hy with rfl | hy
    · exact hst2
    · cases hy)) fun st H Q t => ?_
  refine (tC.step (f := fun v sl h1 => vIsi T errs c v h1) t).mono fun y H1 ⟨v, t1⟩ => ?_
  obtain ⟨ia, sl, h, R, S, r, q⟩ := t1
  cases r with
  | cons ry _ =>
    show rIsD X.K [y, clW X.K c] H1 Q
    dsimp only [vIsi] at q
    split at q
    · rename_i t et
      split at q
      · rename_i b eb ec
        have qq : Q (.bl b) H1 := q.now R (.bl b)
        rcases tyO_ok R et ry with h1 | ⟨x, w, a, d, y', rfl, rfl, rfl, h1, h2⟩
        · exact .inl ⟨y, _, _, _, b, rfl, clsV_of X.K c, h1, TI _ _ _ eb, qq⟩
        · exact .inr ⟨a, _, _, _, _, b, rfl, clsV_of X.K c, h1, ⟨d, rfl, _, h2⟩, (TE _ ec).ic, TI _ _ _ eb, qq⟩
      · exact (show False from q).elim
    · exact (show False from q).elim
/-! ### repr -/
theorem d_rpr (hgd : X.A.guards = some []) (hu : X.A.units + 200 < cLine) (hs : ∃ o, X.K.lookup sysModules = some o ∧ o.cls = .type "dict") (hg : Gl X "repr") (hm : X.mg "repr" = none) (hst : noStar e = true) (he : PE X e (tOf X.K ca W ma)) :
    PE X (.Call (.Name "repr" p) [e] [] pos) (tOf X.K ca W (fun sl h => (ma sl h).bind fun v h1 => vRep v h1)) := by
  have ha : PA X [e] (tCons (tOf X.K ca W ma) tNil) := pa_cons he pa_nil (star_cons hst)
  refine pe_imp (pe_callB (cv_repr (ca := ca) hgd hu hs) hg hm (by decide +kernel : bootBuiltins "repr" = some (.builtin "repr")) ha (by decide) (by decide) (star_cons hst) rfl) fun st H Q t => ?_
  refine (tC.step (f := fun v sl h1 => vRep v h1) t).mono fun y H1 ⟨v, t1⟩ => ?_
  obtain ⟨ia, sl, h, R, S, r, q⟩ := t1
  cases r with
  | cons ry _ => exact ⟨ia, h, v, y, _, rfl, R, ry, q⟩
/-! ### dict displays with keys that are texts -/
def trsOf (K : PySem.W.Frag) (ca : Str → Addr) (W : WS) (ev : IE → LS → LH → Res Val) : List Str → List IE → List (TE × TE)
  | k :: ks, i :: is => (L2.tC (.str k), tOf K ca W (ev i)) :: trsOf K ca W ev ks is
  | _, _ => []
def zipS : List Str → List V → List (V × V)
  | k :: ks, y :: ys => (.str k, y) :: zipS ks ys
  | _, _ => []
theorem cons_post {ml : M (List Val)} {v : Val} {x : V} {vs : List Val} {xs : List V} {st : L2.St} {H : Hp} {Q : List V → Hp → Prop} (t : tCL X.K ca W (v :: vs) (x :: xs) (fun sl h1 => (ml sl h1).bind fun ws h2 => .ok (v :: ws) h2) st H Q) :
    tCL X.K ca W (v :: vs) (x :: xs) ml st H (fun ys H' => Q (x :: ys) H') := by
  obtain ⟨ia, sl, h, R, S, r, q⟩ := t
  refine ⟨ia, sl, h, R, S, r, ?_⟩
  dsimp only at q
  cases e' : ml sl h with
  | bad => rw [e'] at q; exact q
  | exc c v h' => rw [e'] at q; exact q
  | ok ws h1 =>
    rw [e'] at q
    intro ka H' ys g R' r'
    cases r with
    | cons rx _ => exact q ka H' (x :: ys) g R' (.cons (rx.grow g R) r')
theorem drop_ctx {m : M Val} {vs : List Val} {xs : List V} {st : L2.St} {H : Hp} {Q : VK} (t : tC X.K ca W vs xs m st H Q) : tOf X.K ca W m st H Q := by
  obtain ⟨ia, sl, h, R, S, r, q⟩ := t
  exact ⟨ia, sl, h, R, S, .nil, q⟩
theorem pairs_read {ev : IE → LS → LH → Res Val} : ∀ (ks : List Str) (is : List IE), ks.length = is.length → ∀ {vs : List Val} {xs : List V} {st : L2.St} {H : Hp} {Q : List (V × V) → Hp → Prop},
    tCL X.K ca W vs xs (evL ev is) st H (fun ys H' => Q (zipS ks ys) H') → tPairs (trsOf X.K ca W ev ks is) st H Q
  | [], [], _, vs, xs, st, H, Q, t => by
    obtain ⟨ia, sl, h, R, S, r, q⟩ := t
    exact WantL.now q R .nil
  | [], _ :: _, hl, _, _, _, _, _, _ => by cases hl
  | _ :: _, [], hl, _, _, _, _, _, _ => by cases hl
  | k :: ks, i :: is, hl, vs, xs, st, H, Q, t => by
    show tOf X.K ca W (ev i) st H fun y H2 => tPairs (trsOf X.K ca W ev ks is) st H2 fun ps H3 => Q ((.str k, y) :: ps) H3
    refine (drop_ctx (tCL.step (f := fun v sl h1 => (evL ev is sl h1).bind fun ws h2 => .ok (v :: ws) h2) t)).mono fun x H1 ⟨v, t1⟩ => ?_
    exact pairs_read ks is (by simpa using hl) (cons_post t1)
theorem putAll_ok {K : PySem.W.Frag} {ia : List Addr} {H : Hp} : ∀ {ks : List Str} {vs : List Val} {ys : List V} {kvs : List (Key × Val)} {kws : List (Key × V)}, ks.length = vs.length → RVs K ia H vs ys → RKV K ia H kvs kws → RKV K ia H (putAll kvs ks vs) (mergeK kws ((ks.zip ys).map fun p => (Sum.inr p.1, p.2)))
  | [], [], _, _, _, _, .nil, r => r
  | k :: ks, v :: vs, y :: ys, kvs, kws, hl, .cons q qs, r => putAll_ok (ks := ks) (vs := vs) (ys := ys) (by simpa using hl) qs (put_ok q (.inr k) r)
theorem zipS_eq : ∀ (ks : List Str) (ys : List V), zipS ks ys = ((ks.zip ys).map fun p => ((Sum.inr p.1 : Key), p.2)).map fun kv => (kV kv.1, kv.2)
  | [], _ => rfl
  | _ :: _, [] => rfl
  | k :: ks, y :: ys => by
    show (V.str k, y) :: zipS ks ys = _
    rw [zipS_eq ks ys]
    rfl
theorem d_dsp0 : PE X (.Dict [] [] pos) (tOf X.K ca W (fun sl h => .ok (.loc h.length) (h ++ [.dK []]))) := by
  refine pe_imp pe_dnewK fun st H Q t => ?_
  obtain ⟨ia, sl, h, R, S, r, q⟩ := t
  intro a na
  refine q [a] _ _ (Grow.push na) (R.push na ⟨[], upd_same, .nil⟩) (.loc ?_)
  rw [← R.len]
  simp
theorem pps_of {f : Expr → Option IE} {ev : IE → LS → LH → Res Val} (hf : ∀ e ie, f e = some ie → PE X e (tOf X.K ca W (ev ie))) : ∀ {keys : List (Option Expr)} {vals : List Expr} {ks : List Str} {is : List IE}, keyCs keys = some ks → mapX f vals = some is → keys.length = vals.length →
    PPs X pos keys vals (trsOf X.K ca W ev ks is) ∧ keys.all (·.isSome) = true ∧ ks.length = is.length
  | [], [], ks, is, h1, h2, _ => by
    cases h1
    cases h2
    exact ⟨pps_nil, rfl, rfl⟩
  | [], _ :: _, _, _, _, _, hl => by cases hl
  | _ :: _, [], _, _, _, _, hl => by cases hl
  | k :: keys, v :: vals, ks, is, h1, h2, hl => by
    unfold keyCs at h1
    split at h1
    · rename_i heq
      cases heq
    · rename_i k' _ _ keys' heq
      cases heq
      obtain ⟨ks', e1, e2⟩ := Option.map_eq_some_iff.mp h1
      subst e2
      unfold mapX at h2
      split at h2
      · rename_i i js z1 z2 z3
        cases h2
        obtain ⟨p1, p2, p3⟩ := pps_of hf e1 z3 (by simpa using hl)
        exact ⟨pps_cons pe_str (hf _ _ z2) p1, by simpa using p2, by simp [p3]⟩
      · cases h2
    · cases h1
theorem d_dsp {f : Expr → Option IE} {ev : IE → LS → LH → Res Val} (hf : ∀ e ie, f e = some ie → PE X e (tOf X.K ca W (ev ie))) {keys : List (Option Expr)} {vals : List Expr} {ks : List Str} {is : List IE} (h1 : keyCs keys = some ks) (h2 : mapX f vals = some is) (hl : keys.length = vals.length) (h0 : keys ≠ []) (h15 : keys.length ≤ 15) :
    PE X (.Dict keys vals pos) (tOf X.K ca W (vDsp ks (evL ev is))) := by
  obtain ⟨p1, p2, p3⟩ := pps_of (pos := pos) hf h1 h2 hl
  refine pe_imp (pe_disp p1 p2 hl h0 h15) fun st H Q t => ?_
  intro a na
  obtain ⟨ia, sl, h, R, S, r, q⟩ := t
  refine pairs_read ks is p3 (vs := []) (xs := []) ?_
  have R1 := R.push (o := .dK []) (O := .dK []) na ⟨[], upd_same, .nil⟩
  have g1 : Grow ia H [a] (upd H a (.dK [])) := Grow.push na
  refine ⟨ia ++ [a], sl, h ++ [.dK []], R1, S.grow g1 R, .nil, ?_⟩
  have q1 : Want X.K ca ia H ((evL ev is sl (h ++ [.dK []])).bind fun vs h1 => match h1[h.length]? with
    | some (.dK []) => chk (decide (ks.length = vs.length) && decide (ks.length ≤ 15)) (.ok (.loc h.length) (h1.set h.length (.dK (putAll [] ks vs))))
    | _ => .bad) Q (fun c d H' => W c d st H') := q
  cases ee : evL ev is sl (h ++ [.dK []]) with
  | bad => rw [ee] at q1; exact q1
  | exc c v h' =>
    rw [ee] at q1
    intro ka H' d y g R' hd r'
    rw [List.append_assoc] at R' r'
    exact q1 ([a] ++ ka) H' d y (g1.trans g) R' hd r'
  | ok vs h1 =>
    rw [ee] at q1
    intro ka H2 ys g R2 rs
    have q2 : Want X.K ca ia H (match h1[h.length]? with
      | some (.dK []) => chk (decide (ks.length = vs.length) && decide (ks.length ≤ 15)) (.ok (.loc h.length) (h1.set h.length (.dK (putAll [] ks vs))))
      | _ => .bad) Q (fun c d H' => W c d st H') := q1
    split at q2
    · rename_i em
      obtain ⟨cc, q3⟩ := chk_ok q2
      simp only [Bool.and_eq_true, decide_eq_true_eq] at cc
      have hi : (ia ++ [a] ++ ka)[h.length]? = some a := by
        rw [← R.len]
        simp
      obtain ⟨kws, h5, h6⟩ := R2.ob _ _ a em hi
      cases h6
      refine ⟨h5, (ks.zip ys).map (fun p => (Sum.inr p.1, p.2)), zipS_eq ks ys, ?_, ?_⟩
      · have := rs.len
        simp
        omega
      · have hk : Hold H2 (upd H2 a (.dK (mergeK [] ((ks.zip ys).map fun p => (Sum.inr p.1, p.2))))) := Hold.set h5 (fun _ z => by cases z) (fun _ _ z => by cases z)
        have gg : Grow ia H ([a] ++ ka) H2 := g1.trans g
        have g3 := gg.trans (Grow.set (ia := ia ++ ([a] ++ ka)) (O := .dK (mergeK [] ((ks.zip ys).map fun p => (Sum.inr p.1, p.2)))) (by rw [← List.append_assoc]; exact hi) h5)
        rw [List.append_nil] at g3
        have R3 := R2.set (o := .dK (putAll [] ks vs)) hi hk ⟨_, upd_same, by
          have z := RKV.stay (ka := []) hk (putAll_ok cc.1 rs (kvs := []) (kws := []) .nil)
          rw [app_nil] at z
          exact z⟩
        rw [List.append_assoc] at R3
        exact q3 ([a] ++ ka) _ _ g3 R3 (.loc (by rw [← List.append_assoc]; exact hi))
    · exact (show False from q2).elim
end
end Mi

set_option Elab.async false
set_option linter.all false
set_option maxRecDepth 100000
set_option maxHeartbeats 2000000
/-! R4: defs that are called where no repr runs. -/
namespace Mi
open PySem L2 PyProof.Rows
/-- a def keeps its promise wherever no repr runs -/
structure FnG (P : Program) (w : World) (K : PySem.W.Frag) (mg : Str → Option Value) (base : Heap) (CX : CXT) (k : Nat) (f : Addr) (fd : FuncData) (ps : List Str) (sp : Sp) : Prop where
  len : ∀ vs H Q E, sp vs H Q E → vs.length = ps.length
  run : ∀ (A : Around) (outer : List Env) (s : Shared) (H : Hp) (args : Args) (us : List Value) (vs : List V) (Q : VK) (E : XK), A.guards = some [] → Room k A → Env0 P w K mg base A outer s H → BindsTo s fd args (ps.zip us) → Vals vs us → sp vs H Q E →
    codeAny (model P w) A (.call (.ref f) args) (CR CX outer P w H s Q E) s
section
variable {X : Cx} {CX : CXT} {k : Nat} {f : Addr} {fd : FuncData} {ps : List Str} {sp : Sp} {E : XK} {x : Str} {p pos : Pos} {e : Expr} {es : List Expr} {t : TA}
theorem run_fnG {pins : List (Addr × Obj)} {st : L2.St} {H : Hp} {s : Shared} {Q : VK} {us : List Value} {vs : List V} (F : FnG X.prog X.w X.K X.mg X.base CX k f fd ps sp) (hgd : X.A.guards = some []) (hr : Room k X.A) (hb : Binds X.K fd ps []) (hx : Passes CX X E)
    (I : Inv X pins st H s) (r : Vals vs us) (h : sp vs H Q E) : wpAny (model X.prog X.w) X.A (call (.ref f) us) (EP X pins st Q) X.xe s := by
  have hl : us.length = ps.length := by rw [← r.length]; exact F.len _ _ _ _ h
  have hb' := hb s us I.kIn (by rw [List.append_nil]; exact hl)
  rw [List.append_nil] at hb'
  refine wpAny_call (codeAny_mono (F.run X.A X.stack s H ⟨us, []⟩ us vs Q E hgd hr I.env0 hb' r h) fun r s' hq => ?_)
  cases r with
  | error e => exact hx pins st H s e s' I hq
  | ok fl =>
    cases fl with
    | ret u => exact I.after hq
    | next => exact False.elim hq
    | brk => exact False.elim hq
    | cont => exact False.elim hq
theorem pe_callG (F : FnG X.prog X.w X.K X.mg X.base CX k f fd ps sp) (hgd : X.A.guards = some []) (hr : Room k X.A) (hg : Gl X x) (hm : X.mg x = some (.ref f)) (hk : PySem.W.keepIn X.K (.ref f) = true) (hb : Binds X.K fd ps []) (hx : Passes CX X E)
    (ha : PA X (e :: es) t) (hdb : (x == ("__debug__" : Str)) = false) (he : starEach (e :: es) X.env = (false, eval e X.env) :: starEach es X.env) (hpl : (backTo pos (starEach es X.env)).any (·.1) = false) :
    PE X (.Call (.Name x p) (e :: es) [] pos) (tCall sp [] E t) := by
  refine ⟨fun pins s st H Q I h => ?_⟩
  refine wpAny_Call_Name_kw (ld_glob I hg hm ?_ hdb)
  refine PySem.W.callWith_K (h₀ := X.base) I.ok.mod.kin hk (thn (ha.run pos pins s st H _ I h) fun us s1 ⟨vs, H1, I1, r, q⟩ => ⟨I1.kIn, ?_⟩) he hpl
  have q' : sp (vs ++ []) H1 Q E := q
  rw [List.append_nil] at q'
  exact run_fnG F hgd hr hb hx I1 r q'
theorem pe_callG0 (F : FnG X.prog X.w X.K X.mg X.base CX k f fd ps sp) (hgd : X.A.guards = some []) (hr : Room k X.A) (hg : Gl X x) (hm : X.mg x = some (.ref f)) (hk : PySem.W.keepIn X.K (.ref f) = true) (hb : Binds X.K fd ps []) (hx : Passes CX X E)
    (hdb : (x == ("__debug__" : Str)) = false) : PE X (.Call (.Name x p) [] [] pos) (tCall sp [] E tNil) := by
  refine ⟨fun pins s st H Q I h => ?_⟩
  refine wpAny_Call_Name_kw (ld_glob I hg hm ?_ hdb)
  have q : sp [] H Q E := h
  exact PySem.W.callWith_K0 I.kIn hk (run_fnG (us := []) F hgd hr hb hx I .nil q)
end
section
variable {X : Cx} {ca : Str → Addr} {W : WS} {E : XK} {a b c e o : Expr} {es : List Expr} {pos : Pos} {ma mb mo : M Val} {ml : M (List Val)}
/-- a def of the module is called -/
theorem d_cal {x : Str} {p : Pos} {k : Nat} {f : Addr} {fd : FuncData} {ps : List Str} {fr : List Val → LH → Res Val} (F : FnG X.prog X.w X.K X.mg X.base (L2.CX X.prog X.w) k f fd ps (spC X.K ca fr)) (hgd : X.A.guards = some []) (hr : Room k X.A) (hg : Gl X x) (hm : X.mg x = some (.ref f))
    (hk : PySem.W.keepIn X.K (.ref f) = true) (hb : Binds X.K fd ps []) (tk : Takes X (wE E)) (hn : okN x = true) (hne : es ≠ []) (hst : ∀ y ∈ es, noStar y = true) (ha : PA X es (tOfL X.K ca (wE E) ml)) :
    PE X (.Call (.Name x p) es [] pos) (tOf X.K ca (wE E) (fun sl h => (ml sl h).bind fun vs h1 => fr vs h1)) := by
  have hx : Passes (L2.CX X.prog X.w) X E := passes_call tk fun _ _ _ _ z => z
  have key : ∀ st H Q, tOf X.K ca (wE E) (fun sl h => (ml sl h).bind fun vs h1 => fr vs h1) st H Q → tCall (spC X.K ca fr) [] E (tOfL X.K ca (wE E) ml) st H Q := fun st H Q t =>
    tCL.mono (lst_call t) fun ys H1 ⟨ia, h, vs, R, r, q⟩ => by
      rw [List.append_nil]
      exact ⟨ia, h, vs, R, r, q⟩
  cases es with
  | nil => exact absurd rfl hne
  | cons e es =>
    exact pe_imp (pe_callG F hgd hr hg hm hk hb hx ha (okN_d hn).1 (star_cons (hst e List.mem_cons_self)) (star_none fun y hy => hst y (List.mem_cons_of_mem _ hy))) key
theorem d_cal0 {x : Str} {p : Pos} {k : Nat} {f : Addr} {fd : FuncData} {ps : List Str} {fr : List Val → LH → Res Val} (F : FnG X.prog X.w X.K X.mg X.base (L2.CX X.prog X.w) k f fd ps (spC X.K ca fr)) (hgd : X.A.guards = some []) (hr : Room k X.A) (hg : Gl X x) (hm : X.mg x = some (.ref f))
    (hk : PySem.W.keepIn X.K (.ref f) = true) (hb : Binds X.K fd ps []) (tk : Takes X (wE E)) (hn : okN x = true) :
    PE X (.Call (.Name x p) [] [] pos) (tOf X.K ca (wE E) (fun sl h => fr [] h)) := by
  have hx : Passes (L2.CX X.prog X.w) X E := passes_call tk fun _ _ _ _ z => z
  refine pe_imp (pe_callG0 F hgd hr hg hm hk hb hx (okN_d hn).1) fun st H Q t => ?_
  obtain ⟨ia, sl, h, R, S, r, q⟩ := t
  exact ⟨ia, h, [], R, .nil, q⟩
end
/-- a def by its body -/
theorem fnG_of {CX : CXT} {P : Program} {w : World} {K : PySem.W.Frag} {mg : Str → Option Value} {base : Heap} {k : Nat} {f : Addr} {x qual : Str} {st : Stmt} {fd : FuncData} {N ps : List Str} {sp : Sp} (F : Fun K x qual st f fd) (S : FnScope N ps (defScope st)) (len : ∀ vs H Q E, sp vs H Q E → vs.length = ps.length)
    (hbody : ∀ (cdv : Value) (A : Around) (outer : List Env) (s : Shared) (H : Hp) (vs : List V) (Q : VK) (E : XK), A.guards = some [] → Room k (A.deeper (envOfC qual (defScope st) s.heap.objs.size f cdv)) → sp vs H Q E →
      ∃ t, PSs (cxOf CX P w K mg base N qual (defScope st) f cdv A outer s H E) (defBody st) t ∧ t { nx := fun _ H' => Q .non H', rt := Q } (L2.start N vs) H) : FnG P w K mg base CX (k + 1) f fd ps sp := by
  obtain ⟨oc, od, kV, doc, pm, an, cdv, ct, osl, rfl, lk, hcd⟩ := F.ex
  refine ⟨len, fun A outer s H args us vs Q E hgd hr e0 hb r hsp => ?_⟩
  have keep : ∀ b o, base.get? b = some o → s.heap.get? b = some o := fun b o z => (e0.bs b o z).1
  have KX : K.In s.heap := e0.mod.kin.keeps keep
  have binds : ∀ y ∈ ps.zip us, (defScope st).names.lookup y.1 = some .local ∨ ((defScope st).names.lookup y.1 = some .cell ∧ ((cellsFrom (s.heap.objs.size + 1) (defScope st).names []).lookup y.1).isSome = true) := by
    rintro ⟨n, v⟩ hy
    exact (S.par n (List.of_mem_zip hy).1).imp id fun z => ⟨z, PySem.W.cellsFrom_some _ _ _ (.inl z)⟩
  refine codeAny_call_function hr.depth (KX _ _ lk) rfl S.co S.gen rfl (PySem.W.codeRec_of KX hcd) (hb _ _ _ _ (wpAny_newFunctionEnv_cells S.kind binds fun env he s1 entry => ?_))
  subst he
  obtain ⟨t, walk, want⟩ := hbody cdv A outer s H vs Q E hgd (hr.deeper _) hsp
  refine ⟨(e0.mod.nolimit.keeps keep).keeps entry.toInCall.keep, codeAny_func (wpAny_mono (walk.run [] s1 (L2.start N vs) H _ (inv_start S hr.hd e0 (len _ _ _ _ hsp) r entry) want) (fun fl s' ends => ?_) fun _ _ z => z)⟩
  cases fl with
  | ret u =>
    obtain ⟨v, _, H', J, rv, q⟩ := ends
    exact ⟨v, H', J.os, J.bare, J.base, J.hok, rv, q⟩
  | next =>
    obtain ⟨_, H', J, q⟩ := ends
    exact ⟨.non, H', J.os, J.bare, J.base, J.hok, rfl, q⟩
  | brk => exact (show False from ends.choose_spec.choose_spec.2).elim
  | cont => exact (show False from ends.choose_spec.choose_spec.2).elim
end Mi

set_option Elab.async false
set_option linter.all false
set_option maxRecDepth 100000
set_option maxHeartbeats 2000000
/-! D16: expressions, by their run. -/
namespace Mi
open PySem L2 PyProof.Rows
/-- what the written part says of the classes -/
structure COk (P : Program) (K : PySem.W.Frag) (mg : Str → Option Value) (g : Glo) (G : Prg) : Prop where
  err : ∀ x, g.lookup x = some .err → mg x = some (.ref (He.ga K x)) ∧ G.errs.contains x = true
  errs : ∀ c, G.errs.contains c = true → ErrK P K (He.ga K c)
  isi : ∀ t c b, isiL G.isiT t c = some b → PySem.W.kitOne K (clV K t) (clV K c) = some b
  sysm : ∃ o, K.lookup sysModules = some o ∧ o.cls = .type "dict"
/-- the context that the runs need -/
structure Cok (P : Program) (w : World) (K : PySem.W.Frag) (mg : Str → Option Value) (base : Heap) (g : Glo) (G : Prg) (X : Cx) (N : List Str) (sc scL : Scope) (d : Nat) : Prop where
  tg : TgOk X N scL
  scope : X.env.scope = sc
  kind : sc.kind = .function
  room : Room d X.A
  gok : GOk g X.K X.mg
  gd : X.A.guards = some []
  cok : COk X.prog X.K X.mg g G
  hP : X.prog = P
  hw : X.w = w
  hK : X.K = K
  hm : X.mg = mg
  hb : X.base = base
section
variable (P : Program) (w : World) (K : PySem.W.Frag) (mg : Str → Option Value) (base : Heap) (g : Glo) (G : Prg) (ca : Str → Addr) (n : Nat)
/-- the defs, at level n -/
def FnsOk : Prop := ∀ (x : Str) (k : Nat), g.lookup x = some (.fn k) → ∃ f fd ps, mg x = some (.ref f) ∧ PySem.W.keepIn K (.ref f) = true ∧ Binds K fd ps [] ∧ ∀ d, FnG P w K mg base (L2.CX P w) (d + 1) f fd ps (spC K ca ((run G n).c d k))
def EOk : Prop := ∀ (X : Cx) (N : List Str) (sc scL : Scope) (d : Nat) (E : XK) (m : Nat) (e : Expr) (ie : IE), Cok P w K mg base g G X N sc scL d → Takes X (wE E) → trE g N m sc e = some ie → PE X e (tOf K ca (wE E) ((run G n).e d ie))
def TOk : Prop := ∀ (X : Cx) (N : List Str) (sc scL : Scope) (d : Nat) (E : XK) (m : Nat) (e : Expr) (ie : IE), Cok P w K mg base g G X N sc scL d → Takes X (wE E) → trE g N m sc e = some ie → PT X e (tOfB K ca (wE E) ((run G n).t d ie))
end
theorem biOf_boot {x : Str} {n : Nat} {b : Bi} (h : biOf x n = some b) : bootBuiltins x = some (biV b) ∧ 0 < n := by
  unfold biOf at h
  split at h
  · rename_i q; cases h; rw [q.1]; exact ⟨by decide +kernel, by omega⟩
  split at h
  · rename_i q; cases h; rw [q.1]; exact ⟨by decide +kernel, by omega⟩
  split at h
  · rename_i q; cases h; rw [q.1]; exact ⟨by decide +kernel, by omega⟩
  split at h
  · rename_i q; cases h; rw [q.1]; exact ⟨by decide +kernel, by omega⟩
  split at h
  · rename_i q; cases h; rw [q.1]; exact ⟨by decide +kernel, by omega⟩
  split at h
  · rename_i q; cases h; rw [q.1]; exact ⟨by decide +kernel, by omega⟩
  split at h
  · rename_i q; cases h; rw [q.1]; exact ⟨by decide +kernel, by omega⟩
  split at h
  · rename_i q; cases h; rw [q.1]; exact ⟨by decide +kernel, by omega⟩
  split at h
  · rename_i q; cases h; rw [q.1]; exact ⟨by decide +kernel, by omega⟩
  · cases h
theorem tyName_boot {y : Str} {n : String} (h : tyName y = some n) : bootBuiltins y = some (.type n) := by
  unfold tyName at h
  split at h
  · rename_i q; cases h; rw [q]; decide +kernel
  split at h
  · rename_i q; cases h; rw [q]; decide +kernel
  split at h
  · rename_i q; cases h; rw [q]; decide +kernel
  split at h
  · rename_i q; cases h; rw [q]; decide +kernel
  split at h
  · rename_i q; cases h; rw [q]; decide +kernel
  split at h
  · rename_i q; cases h; rw [q]; decide +kernel
  split at h
  · rename_i q; cases h; rw [q]; decide +kernel
  · cases h
theorem cl_pe {X : Cx} {g : Glo} {G : Prg} {sc : Scope} (hs : X.env.scope = sc) (gok : GOk g X.K X.mg) (cok : COk X.prog X.K X.mg g G) {ce : Expr} {c : ClR} (h : clOf g sc ce = some c) : PE X ce (L2.tC (clW X.K c)) ∧ noStar ce = true := by
  unfold clOf at h
  split at h
  · split at h
    · rename_i y p hn
      obtain ⟨hn, hg⟩ := Bool.and_eq_true_iff.mp hn
      split at h
      · rename_i hl
        cases h
        exact ⟨pe_glob (glob_of hs hg) (cok.err _ hl).1 rfl (okN_d hn).1, rfl⟩
      · rename_i hl
        obtain ⟨n, e1, e2⟩ := Option.map_eq_some_iff.mp h
        subst e2
        exact ⟨pe_bltn (glob_of hs hg) (gok.blt _ hl) (tyName_boot e1) rfl (okN_d hn).2.2 (okN_d hn).1, rfl⟩
      · cases h
    · cases h
  · cases h
theorem mtOf_name {x : Str} {n : Nat} {b : Mt} (h : mtOf x n = some b) : x = mtName b ∧ n = 1 := by
  unfold mtOf at h
  split at h
  · rename_i q; cases h; exact q
  split at h
  · rename_i q; cases h; exact q
  split at h
  · rename_i q; cases h; exact q
  · cases h
theorem e_var {X : Cx} {ca : Str → Addr} {W : WS} {i : Nat} {x : Str} {p : Pos} (hN : X.N[i]? = some x) (hv : Vis X.env.scope x) (hn : okN x = true) : PE X (.Name x p) (tOf X.K ca W (fun sl h => match sl[i]? with
    | some (some v) => .ok v h
    | _ => .bad)) := by
  refine pe_imp (pe_var hN hv (okN_d hn).1 (okN_d hn).2.1) fun st H Q t => ?_
  obtain ⟨ia, sl, h, R, S, r, q⟩ := t
  dsimp only at q
  split at q
  · rename_i v ev
    obtain ⟨y, e1, ry⟩ := S.at_ i v ev
    exact ⟨y, e1, q.now R ry⟩
  · exact (show False from q).elim
theorem e_cst {X : Cx} {ca : Str → Addr} {W : WS} {e : Expr} {v : Val} {y : V} (h : PE X e (L2.tC y)) (r : ∀ ia H, RV X.K ia H v y) : PE X e (tOf X.K ca W (fun sl h => chk (noLoc v) (.ok v h))) := by
  refine pe_imp h fun st H Q t => ?_
  obtain ⟨ia, sl, h, R, S, _, q⟩ := t
  exact (chk_ok q).2.now R (r ia H)
/-- within a comprehension's block -/
theorem Cok.blk {P : Program} {w : World} {K : PySem.W.Frag} {mg : Str → Option Value} {base : Heap} {g : Glo} {G : Prg} {X : Cx} {N : List Str} {sc scL scope : Scope} {d : Nat} (c : Cok P w K mg base g G X N sc scL d) {own : List (Str × Nat)} (ok : BlkOk N sc scope own)
    (s : Shared) (H : Hp) (C : Addr) (cl : List (Str × Addr)) (fp : List Addr) : Cok P w K mg base g G (X.blk s H scope (compEnvC scope cl C X.env) fp) N (relS scope sc) scope d := by
  refine ⟨⟨c.tg.n, c.tg.nd, c.tg.calm, fun x hx => ?_⟩, ?_, ok.kind, c.room, c.gok, c.gd, c.cok, c.hP, c.hw, c.hK, c.hm, c.hb⟩
  · unfold locB at hx
    split at hx
    · rename_i e
      have q := lookup_relS_keep (sc := X.env.scope) (k := .local) (by decide) e
      exact ⟨.inl q, .inr q⟩
    · rename_i e
      have q := lookup_relS_keep (sc := X.env.scope) (k := .cell) (by decide) e
      refine ⟨.inr q, .inl ?_⟩
      show (scope.names.lookup x == some .cell) = true
      rw [e]
      rfl
    · cases hx
  · rw [← c.scope]
    rfl
theorem takes_blk {X : Cx} {s : Shared} {H : Hp} {scope : Scope} {env : Env} {fp : List Addr} : Takes (X.blk s H scope env fp) W0 := takes0
section
variable {P : Program} {w : World} {K : PySem.W.Frag} {mg : Str → Option Value} {base : Heap} {g : Glo} {G : Prg} {ca : Str → Addr} {n : Nat}
theorem e_lc (hE : ∀ m, m ≤ n → EOk P w K mg base g G ca m) (hT : ∀ m, m ≤ n → TOk P w K mg base g G ca m) {X : Cx} {N : List Str} {sc scL scope : Scope} {d m : Nat} {E : XK} (c : Cok P w K mg base g G X N sc scL d) (tk : Takes X (wE E))
    {tg iter elt : Expr} {ifs : List Expr} {k : Nat} {es is : List IE} {t : ITg} {i : IE}
    (h1 : (blkC N sc scope (ownOf N scope.names) && noSet iter && decide (ifs.length ≤ 1)) = true) (h2 : trI g sc (trE g N m sc) tg iter = some (k, es)) (h3 : trG N scope m tg = some t) (h4 : mapX (trE g N m (relS scope sc)) ifs = some is)
    (h5 : trE g N m (relS scope sc) elt = some i) (h6 : (slots t).all (fun j => ((ownOf N scope.names).map (·.2)).contains j) = true) :
    BlkOk X.N X.env.scope scope (ownOf N scope.names) ∧ noSet iter = true ∧ (∀ i ∈ slots t, i ∈ (ownOf N scope.names).map (·.2)) ∧ PI X tg iter (tSrc K ca (wE E) (srcM k (evL ((run G n).e d) es))) ∧
    (∀ (s : Shared) (H : Hp) (C : Addr) (cl : List (Str × Addr)) (fp : List Addr), PG (X.blk s H scope (compEnvC scope cl C X.env) fp) tg (gB K ca t)) ∧
    (∀ m, m ≤ n → ∀ (s : Shared) (H : Hp) (C : Addr) (cl : List (Str × Addr)) (fp : List Addr), PTs (X.blk s H scope (compEnvC scope cl C X.env) fp) ifs (tOfB K ca W0 (tsIf ((run G m).t d) is))) ∧
    (∀ m, m ≤ n → ∀ (s : Shared) (H : Hp) (C : Addr) (cl : List (Str × Addr)) (fp : List Addr), PE (X.blk s H scope (compEnvC scope cl C X.env) fp) elt (tOf K ca W0 ((run G m).e d i))) := by
  simp only [Bool.and_eq_true, decide_eq_true_eq] at h1
  obtain ⟨⟨hb, hset⟩, hl⟩ := h1
  have ok := blkOk_by hb
  refine ⟨by rw [c.tg.n, c.scope]; exact ok, hset, fun i hi => ?_, ?_, fun s H C cl fp => ?_, fun m' hm s H C cl fp => ?_, fun m' hm s H C cl fp => ?_⟩
  · have := List.all_eq_true.mp h6 i hi
    simpa using this
  · have q := d_src (ca := ca) (W := wE E) (ev := (run G n).e d) c.scope c.gok (fun e ie he => by rw [c.hK]; exact hE n (Nat.le_refl n) X N sc scL d E m e ie c tk he) h2
    rw [c.hK] at q
    exact q
  · have cb := c.blk ok s H C cl fp
    have q := d_tg (ca := ca) cb.tg h3
    rw [show (X.blk s H scope (compEnvC scope cl C X.env) fp).K = K from c.hK] at q
    exact q
  · have cb := c.blk ok s H C cl fp
    match ifs, is, h4, hl with
    | [], is, h4, _ =>
      cases h4
      refine ⟨fun pins s' st H' Q I t => (pts_nil (X := X.blk s H scope (compEnvC scope cl C X.env) fp)).run pins s' st H' Q I ?_⟩
      obtain ⟨ia, sl, h, R, S, r, q⟩ := t
      exact WantB.now q R
    | [e], is, h4, _ =>
      unfold mapX at h4
      split at h4
      · rename_i j js e1 e2 e3
        cases h4
        cases e3
        have q := hT m' hm _ N _ _ d (fun _ _ _ => False) m e j cb takes_blk e2
        exact pts_one q
      · cases h4
    | _ :: _ :: _, _, _, hl => simp at hl
  · exact hE m' hm _ N _ _ d (fun _ _ _ => False) m elt i (c.blk ok s H C cl fp) takes_blk h5
end
end Mi

set_option Elab.async false
set_option linter.all false
set_option maxRecDepth 100000
set_option maxHeartbeats 4000000
/-! D17: an expression's step. -/
namespace Mi
open PySem L2 PyProof.Rows
section
variable {P : Program} {w : World} {K : PySem.W.Frag} {mg : Str → Option Value} {base : Heap} {g : Glo} {G : Prg} {ca : Str → Addr} {n : Nat}
theorem lrg_of {x : Str} {args : List Expr} {sc : Scope} {a : Expr} (h : (if x = ("list" : Str) then (match args with
            | [.Call (.Name y _) [a] [] _] => if y = ("range" : Str) ∧ isBlt g sc y = true ∧ noStar a = true then some a else none
            | _ => none) else none) = some a) : x = "list" ∧ ∃ y p p2, args = [.Call (.Name y p) [a] [] p2] ∧ y = "range" ∧ isBlt g sc y = true ∧ noStar a = true := by
  split at h
  · rename_i hx
    split at h
    · split at h
      · rename_i q
        cases h
        exact ⟨hx, _, _, _, rfl, q⟩
      · cases h
    · cases h
  · cases h
theorem e_step (hE : ∀ m, m ≤ n → EOk P w K mg base g G ca m) (hT : ∀ m, m ≤ n → TOk P w K mg base g G ca m) (F : FnsOk P w K mg base g G ca n) : EOk P w K mg base g G ca (n + 1) := by
  intro X N sc scL d E m e ie c tk h
  have hu := c.room.un
  obtain ⟨tg, hsc, kind, room, gok, gd, cok, rfl, rfl, rfl, rfl, rfl⟩ := c
  have c : Cok X.prog X.w X.K X.mg X.base g G X N sc scL d := ⟨tg, hsc, kind, room, gok, gd, cok, rfl, rfl, rfl, rfl, rfl⟩
  have hN := tg.n
  cases m with
  | zero => cases h
  | succ m =>
    have ih : ∀ e ie, trE g N m sc e = some ie → PE X e (tOf X.K ca (wE E) ((run G n).e d ie)) := fun e ie z => hE n (Nat.le_refl n) X N sc scL d E m e ie c tk z
    have iht : ∀ e ie, trE g N m sc e = some ie → PT X e (tOfB X.K ca (wE E) ((run G n).t d ie)) := fun e ie z => hT n (Nat.le_refl n) X N sc scL d E m e ie c tk z
    show PE X e (tOf X.K ca (wE E) (stE G (run G n) d ie))
    unfold trE at h
    split at h
    · split at h
      · cases h; exact e_cst pe_int fun _ _ => .int _
      · cases h; exact e_cst pe_str fun _ _ => .str _
      · cases h; exact e_cst pe_bl fun _ _ => .bl _
      · cases h; exact e_cst pe_non fun _ _ => .non
      · cases h
    · split at h
      · rename_i hn
        split at h
        · rename_i hv
          obtain ⟨i, e1, e2⟩ := Option.map_eq_some_iff.mp h
          subst e2
          exact e_var (by rw [hN]; exact idx_ok e1) (vis_of hsc hv) hn
        · split at h
          · rename_i hg
            split at h
            · rename_i v hl
              cases h
              obtain ⟨y, u, h1, h2, h3⟩ := gok.val _ _ hl
              exact e_cst (pe_glob (glob_of hsc hg) h1 h2 (okN_d hn).1) h3
            · cases h
          · cases h
      · cases h
    · split at h
      · rename_i i j h1 h2
        cases h
        exact d_bin (ih _ _ h1) (ih _ _ h2)
      · cases h
    · obtain ⟨i, e1, e2⟩ := Option.map_eq_some_iff.mp h
      subst e2
      exact d_neg (ih _ _ e1)
    · obtain ⟨i, e1, e2⟩ := Option.map_eq_some_iff.mp h
      subst e2
      exact d_nt (ih _ _ e1)
    · obtain ⟨i, e1, e2⟩ := Option.map_eq_some_iff.mp h
      subst e2
      exact d_an ih e1
    · obtain ⟨i, e1, e2⟩ := Option.map_eq_some_iff.mp h
      subst e2
      exact d_or ih e1
    · split at h
      · rename_i i j hm h1 h2
        cases h
        exact d_cmp (by omega) hm (ih _ _ h1) (ih _ _ h2)
      · cases h
    · split at h
      · rename_i i j k hm h1 h2 h3
        cases h
        exact d_chn (by omega) hm (ih _ _ h1) (ih _ _ h2) (ih _ _ h3)
      · cases h
    · split at h
      · rename_i i j k h1 h2 h3
        cases h
        exact d_ife (iht _ _ h1) (ih _ _ h2) (ih _ _ h3)
      · cases h
    · obtain ⟨is, e1, e2⟩ := Option.map_eq_some_iff.mp h
      subst e2
      exact d_tp (d_list ih e1)
    · obtain ⟨is, e1, e2⟩ := Option.map_eq_some_iff.mp h
      subst e2
      exact d_ls (d_list ih e1)
    · split at h
      · split at h
        · rename_i i l u h1 h2 h3
          cases h
          split at h2
          · cases h2
            split at h3
            · cases h3
              exact d_sl0 (ih _ _ h1)
            · obtain ⟨j, e1, e2⟩ := Option.map_eq_some_iff.mp h3
              subst e2
              exact d_sl2 (ih _ _ h1) (ih _ _ e1)
          · obtain ⟨j, e1, e2⟩ := Option.map_eq_some_iff.mp h2
            subst e2
            split at h3
            · cases h3
              exact d_sl1 (ih _ _ h1) (ih _ _ e1)
            · obtain ⟨j', e3, e4⟩ := Option.map_eq_some_iff.mp h3
              subst e4
              exact d_sl3 (ih _ _ h1) (ih _ _ e1) (ih _ _ e3)
        · cases h
      · split at h
        · rename_i i j hs h1 h2
          cases h
          exact d_ix (by omega) hs (ih _ _ h1) (ih _ _ h2)
        · cases h
    · rename_i x xp args cp
      split at h
      · rename_i hb
        obtain ⟨hn, hg⟩ := Bool.and_eq_true_iff.mp hb
        have hgl := glob_of hsc hg
        split at h
        · rename_i k hl
          obtain ⟨is, e1, e2⟩ := Option.map_eq_some_iff.mp h
          subst e2
          obtain ⟨f, fd, ps, hm, hk, hbi, hf⟩ := F _ _ hl
          obtain ⟨hlen, hst⟩ := mapX_star e1
          cases d with
          | zero => exact ⟨fun pins s st H Q I t => by obtain ⟨_, _, _, _, _, _, q⟩ := t; exact (show False from q).elim⟩
          | succ d =>
            cases args with
            | nil =>
              cases e1
              exact pe_imp (d_cal0 (hf d) gd room hgl hm hk hbi tk hn) fun st H Q t => t
            | cons a as => exact d_cal (hf d) gd room hgl hm hk hbi tk hn (by simp) hst (d_list ih e1)
        · rename_i hl
          split at h
          · split at h
            · rename_i a _ i hst e1
              cases h
              obtain ⟨h1, h2⟩ := cok.err _ hl
              exact d_mkE (cok.errs _ h2) (room.mono (Nat.zero_le _)) hgl h1 hst hn (ih _ _ e1)
            · cases h
          · cases h
        · rename_i hl
          split at h
          · rename_i i' hi
            cases h
            split at hi
            · rename_i hx
              subst hx
              split at hi
              · split at hi
                · rename_i a ce _ _ i c hst e1 e2
                  cases hi
                  obtain ⟨hce, hst2⟩ := cl_pe hsc gok cok e2
                  exact d_isi cok.errs cok.isi hgl (gok.blt _ hl) hst hst2 (ih _ _ e1) hce
                · cases hi
              · cases hi
            · split at hi
              · rename_i hx
                subst hx
                split at hi
                · split at hi
                  · rename_i a _ i hst e1
                    cases hi
                    exact d_rpr gd (by omega) cok.sysm hgl (gok.blt _ hl) hst (ih _ _ e1)
                  · cases hi
                · cases hi
              · cases hi
          split at h
          · rename_i a hlr
            obtain ⟨hx, y, p1, p2, hargs, hy, hbl, hst⟩ := lrg_of hlr
            obtain ⟨i, e1, e2⟩ := Option.map_eq_some_iff.mp h
            subst e2
            subst hy
            subst hargs
            subst hx
            obtain ⟨hg2, hm2⟩ := blt_of hsc gok hbl
            exact d_lrg tg.calm hgl (gok.blt _ hl) hg2 hm2 hst (ih _ _ e1)
          · split at h
            · rename_i b is h1 h2
              cases h
              obtain ⟨hv, hlen⟩ := biOf_boot h1
              obtain ⟨_, hst⟩ := mapX_star h2
              cases args with
              | nil => cases hlen
              | cons a as => exact d_blt tg.calm hgl (gok.blt _ hl) hv hn hst (d_list ih h2)
            · cases h
        · cases h
      · cases h
    · rename_i a x p
      split at h
      · rename_i i hb e1
        cases h
        obtain ⟨hx, hp⟩ := Bool.and_eq_true_iff.mp hb
        have hx := of_decide_eq_true hx
        subst hx
        exact d_fld cok.errs hp (ih _ _ e1)
      · cases h
    · rename_i keys vals p
      split at h
      · rename_i ks is h1 h2 h3
        cases h
        obtain ⟨h3, h4⟩ := Bool.and_eq_true_iff.mp h3
        have h3 := of_decide_eq_true h3
        have h4 := of_decide_eq_true h4
        cases keys with
        | nil =>
          cases vals with
          | nil =>
            cases h1
            cases h2
            exact d_dsp0
          | cons _ _ => cases h3
        | cons k keys =>
          have hne : ks ≠ [] := by
            obtain ⟨_, _, h5⟩ := pps_of (pos := p) (X := X) ih h1 h2 h3
            intro z
            rw [z] at h5
            have := (mapX_star h2).1
            rw [← this, ← h3] at h5
            cases h5
          cases ks with
          | nil => exact absurd rfl hne
          | cons k' ks => exact d_dsp ih h1 h2 h3 (by simp) h4
      · cases h
    · rename_i o x ap args cp
      split at h
      · rename_i mt i is h1 h2 h3 h4
        cases h
        obtain ⟨hx, hlen⟩ := mtOf_name h1
        obtain ⟨hp, hl⟩ := Bool.and_eq_true_iff.mp h2
        obtain ⟨_, hst⟩ := mapX_star h4
        cases args with
        | nil => cases hlen
        | cons a as => exact d_mth hx hp hl hst (by rw [hlen]; decide) (ih _ _ h3) (d_list ih h4)
      · cases h
    · dsimp only at h
      split at h
      · rename_i k es t is i h1 h2 h3 h4 h5
        split at h
        · rename_i h6
          cases h
          obtain ⟨ok, hset, hown, hi, hg, ht, he⟩ := e_lc hE hT c tk h1 h2 h3 h4 h5 h6
          exact d_lc tg.calm (by rw [hN]; exact tg.nd) ok hown hset hi hg ht he
        · cases h
      · cases h
    · cases h
/-- an expression as a test -/
theorem t_step (hE : ∀ m, m ≤ n → EOk P w K mg base g G ca m) (hT : ∀ m, m ≤ n → TOk P w K mg base g G ca m) : TOk P w K mg base g G ca (n + 1) := by
  intro X N sc scL d E m e ie c tk h
  have hu := c.room.un
  obtain ⟨tg, hsc, kind, room, gok, gd, cok, rfl, rfl, rfl, rfl, rfl⟩ := c
  have c : Cok X.prog X.w X.K X.mg X.base g G X N sc scL d := ⟨tg, hsc, kind, room, gok, gd, cok, rfl, rfl, rfl, rfl, rfl⟩
  have hw := hE n (Nat.le_refl n) X N sc scL d E m e ie c tk h
  cases m with
  | zero => cases h
  | succ m =>
    have iht : ∀ e ie, trE g N m sc e = some ie → PT X e (tOfB X.K ca (wE E) ((run G n).t d ie)) := fun e ie z => hT n (Nat.le_refl n) X N sc scL d E m e ie c tk z
    show PT X e (tOfB X.K ca (wE E) (stT (run G n) d ie))
    unfold trE at h
    split at h
    · split at h
      · cases h; exact dt_tru hw fun _ => rfl
      · cases h; exact dt_tru hw fun _ => rfl
      · cases h; exact dt_tru hw fun _ => rfl
      · cases h; exact dt_tru hw fun _ => rfl
      · cases h
    · split at h
      · split at h
        · obtain ⟨i, e1, e2⟩ := Option.map_eq_some_iff.mp h
          subst e2
          exact dt_tru hw fun _ => rfl
        · split at h
          · split at h
            · cases h
              exact dt_tru hw fun _ => rfl
            · cases h
          · cases h
      · cases h
    · split at h
      · cases h
        exact dt_tru hw fun _ => rfl
      · cases h
    · obtain ⟨i, e1, e2⟩ := Option.map_eq_some_iff.mp h
      subst e2
      exact dt_tru hw fun _ => rfl
    · obtain ⟨i, e1, e2⟩ := Option.map_eq_some_iff.mp h
      subst e2
      exact dt_nt (iht _ _ e1)
    · obtain ⟨i, e1, e2⟩ := Option.map_eq_some_iff.mp h
      subst e2
      exact (dt_an iht e1).pt
    · obtain ⟨i, e1, e2⟩ := Option.map_eq_some_iff.mp h
      subst e2
      exact (dt_or iht e1).pt
    · split at h
      · rename_i i j hm h1 h2
        cases h
        cases n with
        | zero => exact ⟨fun pins s st H Q I t => by obtain ⟨_, _, _, _, _, _, q⟩ := t; exact (show False from q).elim⟩
        | succ n =>
          have ih : ∀ e ie, trE g N m sc e = some ie → PE X e (tOf X.K ca (wE E) ((run G n).e d ie)) := fun e ie z => hE n (Nat.le_succ n) X N sc scL d E m e ie c tk z
          exact dt_cmp (by omega) hm (ih _ _ h1) (ih _ _ h2)
      · cases h
    · split at h
      · rename_i i j k hm h1 h2 h3
        cases h
        cases n with
        | zero => exact ⟨fun pins s st H Q I t => by obtain ⟨_, _, _, _, _, _, q⟩ := t; exact (show False from q).elim⟩
        | succ n =>
          have ih : ∀ e ie, trE g N m sc e = some ie → PE X e (tOf X.K ca (wE E) ((run G n).e d ie)) := fun e ie z => hE n (Nat.le_succ n) X N sc scL d E m e ie c tk z
          exact dt_chn (by omega) hm (ih _ _ h1) (ih _ _ h2) (ih _ _ h3)
      · cases h
    · split at h
      · cases h
        exact ⟨fun pins s st H Q I t => by obtain ⟨_, _, _, _, _, _, q⟩ := t; exact (show False from q).elim⟩
      · cases h
    · obtain ⟨is, e1, e2⟩ := Option.map_eq_some_iff.mp h
      subst e2
      exact dt_tru hw fun _ => rfl
    · obtain ⟨is, e1, e2⟩ := Option.map_eq_some_iff.mp h
      subst e2
      exact dt_tru hw fun _ => rfl
    · split at h
      · split at h
        · cases h
          exact dt_tru hw fun _ => rfl
        · cases h
      · split at h
        · cases h
          exact dt_tru hw fun _ => rfl
        · cases h
    · split at h
      · split at h
        · obtain ⟨is, e1, e2⟩ := Option.map_eq_some_iff.mp h
          subst e2
          exact dt_tru hw fun _ => rfl
        · split at h
          · split at h
            · cases h
              exact dt_tru hw fun _ => rfl
            · cases h
          · cases h
        · split at h
          · rename_i i' hi
            cases h
            split at hi
            · split at hi
              · split at hi
                · cases hi
                  exact dt_tru hw fun _ => rfl
                · cases hi
              · cases hi
            · split at hi
              · split at hi
                · split at hi
                  · cases hi
                    exact dt_tru hw fun _ => rfl
                  · cases hi
                · cases hi
              · cases hi
          split at h
          · obtain ⟨is, e1, e2⟩ := Option.map_eq_some_iff.mp h
            subst e2
            exact dt_tru hw fun _ => rfl
          · split at h
            · cases h
              exact dt_tru hw fun _ => rfl
            · cases h
        · cases h
      · cases h
    · split at h
      · cases h
        exact dt_tru hw fun _ => rfl
      · cases h
    · split at h
      · cases h
        exact dt_tru hw fun _ => rfl
      · cases h
    · split at h
      · cases h
        exact dt_tru hw fun _ => rfl
      · cases h
    · dsimp only at h
      split at h
      · split at h
        · cases h
          exact dt_tru hw fun _ => rfl
        · cases h
      · cases h
    · cases h
end
end Mi

set_option Elab.async false
set_option linter.all false
set_option maxRecDepth 100000
set_option maxHeartbeats 4000000
/-! D18: statements, by their run. -/
namespace Mi
open PySem L2 PyProof.Rows
section
variable (P : Program) (w : World) (K : PySem.W.Frag) (mg : Str → Option Value) (base : Heap) (g : Glo) (G : Prg) (ca : Str → Addr) (n : Nat)
def SOk : Prop := ∀ (X : Cx) (N : List Str) (sc : Scope) (d : Nat) (E : XK) (m : Nat) (sts : List Stmt) (ib : List IS), Cok P w K mg base g G X N sc sc d → Takes X (wE E) → PassesOwn (model X.prog X.w) X.A X.env X.xe → trS g N m sc sts = some ib → PSs X sts (tS K ca (wE E) ((run G n).s d ib))
end
section
variable {X : Cx} {ca : Str → Addr} {W : WS}
/-! ### o[i] = v -/
def rSet (K : PySem.W.Frag) (ca : Str → Addr) : TSet := fun o i v H Q => ∃ (ia : List Addr) (h : LH) (ov iv vv : Val) (h' : LH), Rep K ca ia H h ∧ RV K ia H ov o ∧ RV K ia H iv i ∧ RV K ia H vv v ∧ vSet ov iv vv h = some h' ∧
  ∀ H', Grow ia H [] H' → Rep K ca ia H' h' → Q H'
theorem set_any (hu : X.A.units + 1 < cLine) : PSet X (rSet X.K ca) := by
  intro pins s st H o i v ov iv u Q I ro ri rv ⟨ia, h, oV, iV, vV, h', R, r1, r2, r3, e, q⟩
  unfold vSet at e
  split at e
  · rename_i n
    cases r1 with
    | loc hn =>
      rename_i a
      split at e
      · rename_i xs hx
        split at e
        · rename_i k
          obtain ⟨j, e1, e2⟩ := Option.map_eq_some_iff.mp e
          subst e2
          cases r2
          obtain ⟨ys, hy, rs⟩ := R.ob n _ a hx hn
          refine set_list pins s st H _ _ v ov iv u Q I ro ri rv ⟨a, ys, k, j, rfl, rfl, hy, by rw [← rs.len]; exact e1, ?_⟩
          have hk : Hold H (upd H a (.lst (ys.set j v))) := Hold.set hy (fun _ z => by cases z) (fun _ _ z => by cases z)
          refine q _ (Grow.set hn hy) (R.set hn hk ⟨_, upd_same, ?_⟩)
          have z := RVs.stay (ka := []) hk (rs.set r3 j)
          rw [app_nil] at z
          exact z
        · cases e
      · rename_i kvs hx
        split at e
        · rename_i hl
          obtain ⟨k, e1, e2⟩ := Option.map_eq_some_iff.mp e
          subst e2
          obtain ⟨kws, hy, rs⟩ := R.ob n _ a hx hn
          have ek := keyOf_ok e1 r2
          subst ek
          refine set_dict hu pins s st H _ _ v ov iv u Q I ro ri rv ⟨a, _, rfl, DPut.k hy (by rw [← rs.len]; exact hl), ?_⟩
          have hk : Hold H (upd H a (.dK (putK kws k v))) := Hold.set hy (fun _ z => by cases z) (fun _ _ z => by cases z)
          refine q _ (Grow.set hn hy) (R.set hn hk ⟨_, upd_same, ?_⟩)
          have z := RKV.stay (ka := []) hk (put_ok r3 k rs)
          rw [app_nil] at z
          exact z
        · cases e
      · rename_i kvs hx
        split at e
        · rename_i ks
          split at e
          · rename_i hl
            obtain ⟨k, e1, e2⟩ := Option.map_eq_some_iff.mp e
            subst e2
            obtain ⟨kws, hy, rs⟩ := R.ob n _ a hx hn
            cases r2 with
            | tup ht rk =>
              have ek := keysOf_ok e1 rk
              subst ek
              refine set_dict hu pins s st H _ _ v ov iv u Q I ro ri rv ⟨a, _, rfl, DPut.t hy ht (by rw [← rs.len]; exact hl), ?_⟩
              have hk : Hold H (upd H a (.dT (putK kws k v))) := Hold.set hy (fun _ z => by cases z) (fun _ _ z => by cases z)
              refine q _ (Grow.set hn hy) (R.set hn hk ⟨_, upd_same, ?_⟩)
              have z := RKV.stay (ka := []) hk (put_ok r3 k rs)
              rw [app_nil] at z
              exact z
          · cases e
        · cases e
      · cases e
  · cases e
/-! ### which stores are exchanged -/
theorem sw_not {e tg : Expr} {l : Nat} {env : Env} (h : noComp e = true) : swapsWithSole [tg] e l env = pure false := by
  cases e <;> first | rfl | cases h
theorem sw_none {e : Expr} {l : Nat} {env : Env} (h : noComp e = true) : swapsWith e none l env = pure false := by
  cases e <;> first | rfl | cases h
theorem sw_lc {elt : Expr} {gs : List Comprehension} {scope : Scope} {pos py : Pos} {y : Str} {l : Nat} (hk : X.env.scope.kind = .function) : swapsWithSole [.Name y py] (.ListComp elt gs scope pos) l X.env = pure (lcSw X.env.scope scope y py pos) := by
  have hb : X.env.blockKind = .function := by unfold Env.blockKind; rw [hk]; rfl
  unfold swapsWithSole swapsWith lcSw
  simp only [hb, Env.kindOf, Expr.pos]
  rfl
theorem sw_tup {ts vs : List Expr} {k1 k2 : Nat} {p1 p2 : Pos} (hk : X.env.scope.kind = .function) {b : Bool} (h : swOk X.env.scope ts vs = some b) : ∃ o, swappedStores [.Tuple ts k1 p1] (.Tuple vs k2 p2) X.env = pure o ∧ (b = false → o = none) ∧
    (b = true → o = some (ts.filterMap fun
      | .Name id pos => if X.env.scope.names.lookup id == some .local && pos.line == (ts.head?.map (·.pos.line)).getD 0 then some id else none
      | _ => none) ∧ (ts.filterMap fun
      | .Name id pos => if X.env.scope.names.lookup id == some .local && pos.line == (ts.head?.map (·.pos.line)).getD 0 then some id else none
      | _ => none).length = ts.length ∧ vs.length = ts.length ∧ (ts.filterMap fun
      | .Name id pos => if X.env.scope.names.lookup id == some .local && pos.line == (ts.head?.map (·.pos.line)).getD 0 then some id else none
      | _ => none).eraseDups.length = ts.length) := by
  have hb : X.env.blockKind = .function := by unfold Env.blockKind; rw [hk]; rfl
  unfold swOk at h
  dsimp only at h
  have e0 : swappedStores [.Tuple ts k1 p1] (.Tuple vs k2 p2) X.env = (do
    if (!(ts.length == 2 || ts.length == 3) || vs.length != ts.length || X.env.blockKind != .function) = true then return none
    if (vs.any fun | .Starred .. => true | _ => false) = true then return none
    let line := (ts.head?.map (·.pos.line)).getD 0
    let names := ts.filterMap fun
      | .Name id pos => if X.env.kindOf id == some .local && pos.line == line then some id else none
      | _ => none
    if (names.length != ts.length || names.eraseDups.length != names.length) = true then return none
    if vs.all (foldedForSure 8) = true then return none
    if vs.all (constantsAlone 8) = true then unsupported "assign.tuple-of-constant-expressions:order-of-the-stores"
    return some names) := rfl
  rw [e0, hb]
  split at h
  · rename_i h1
    cases h
    refine ⟨none, ?_, fun _ => rfl, fun z => by cases z⟩
    rw [if_pos (by rw [h1]; rfl)]
  · rename_i h1
    have h1' : (!(ts.length == 2 || ts.length == 3) || vs.length != ts.length || ScopeKind.function != .function) = false := by
      have : (!(ts.length == 2 || ts.length == 3) || vs.length != ts.length) = false := by simpa using h1
      rw [this]; rfl
    rw [h1']
    simp only [Bool.false_eq_true, if_false]
    split at h
    · rename_i h2
      cases h
      refine ⟨none, ?_, fun _ => rfl, fun z => by cases z⟩
      exact if_pos h2
    · rename_i h2
      split at h
      · rename_i h3
        cases h
        refine ⟨none, ?_, fun _ => rfl, fun z => by cases z⟩
        exact (if_neg h2).trans (if_pos h3)
      · rename_i h3
        split at h
        · rename_i h4
          cases h
          refine ⟨none, ?_, fun _ => rfl, fun z => by cases z⟩
          exact (if_neg h2).trans ((if_neg h3).trans (if_pos h4))
        · rename_i h4
          split at h
          · cases h
          · rename_i h5
            cases h
            have z3 := h3
            simp only [Bool.or_eq_true, bne_iff_ne, ne_eq, not_or, Decidable.not_not] at z3
            have z1 : vs.length = ts.length := by
              have : (!(ts.length == 2 || ts.length == 3) || vs.length != ts.length) = false := by simpa using h1
              have := (Bool.or_eq_false_iff.mp this).2
              simpa using this
            refine ⟨some _, (if_neg h2).trans (((if_neg h3).trans (if_neg h4)).trans ?_), fun z => by (cases z), fun _ => ⟨rfl, z3.1, z1, z3.2.trans z3.1⟩⟩
            exact if_neg h5
end
end Mi

set_option Elab.async false
set_option linter.all false
set_option maxRecDepth 100000
set_option maxHeartbeats 4000000
/-! D19: a statement's step, a def's step. -/
namespace Mi
open PySem L2 PyProof.Rows
section
variable {K : PySem.W.Frag} {ca : Str → Addr} {W : WS} {X : Cx}
theorem asg_read {m : M Val} {t : ITg} {D : Ends} {st : L2.St} {H : Hp} (h : tS K ca W (fun sl h => ofR (m sl h) sl fun v h1 => nxB t v sl h1) D st H) : tAsg (tOf K ca W m) (gB K ca t) D st H := by
  refine (tS.ofR (f := fun v sl h1 => nxB t v sl h1) h).mono fun x H1 ⟨ia, sl, h, v, R, S, r, q⟩ => ?_
  unfold nxB at q
  split at q
  · rename_i sl1 e
    exact ⟨ia, sl, h, v, sl1, R, S, r, e, fun st' S' _ => WantS.nxNow q R S'⟩
  · exact (show False from q).elim
theorem sub_read {mo mi me : M Val} {D : Ends} {st : L2.St} {H : Hp} (h : tS K ca W (fun sl h => ofR (me sl h) sl fun v h1 => ofR (mo sl h1) sl fun ov h2 => ofR (mi sl h2) sl fun iv h3 => match vSet ov iv v h3 with
    | some h4 => .nx sl h4
    | none => .bad) D st H) : tAsg (tOf K ca W me) (gSub (tOf K ca W mo) (tOf K ca W mi) (rSet K ca)) D st H := by
  have step : ∀ {vs : List Val} {xs : List V} {m : M Val} {f : Val → MS} {H : Hp} {ia : List Addr} {sl : LS} {h : LH}, Rep K ca ia H h → RS K ia H sl st → RVs K ia H vs xs → WantS K ca ia H (ofR (m sl h) sl fun v h1 => f v sl h1) D W →
      tOf K ca W m st H (fun x H1 => ∃ (ia : List Addr) (sl : LS) (h : LH) (v : Val), Rep K ca ia H1 h ∧ RS K ia H1 sl st ∧ RVs K ia H1 (v :: vs) (x :: xs) ∧ WantS K ca ia H1 (f v sl h) D W) := by
    intro vs xs m f H ia sl h R S r w
    refine ⟨ia, sl, h, R, S, .nil, ?_⟩
    cases e : m sl h with
    | bad => rw [e] at w; exact w
    | exc c v h' =>
      rw [e] at w
      exact fun ka H' d y g R' hd r' => w ka H' d y st g R' hd r' (S.grow g R)
    | ok v h1 =>
      rw [e] at w
      exact fun ka H1 x g R1 r1 => ⟨ia ++ ka, sl, h1, v, R1, S.grow g R, .cons r1 (r.grow g R), WantS.shift w g⟩
  obtain ⟨ia, sl, h, R, S, q⟩ := h
  refine (step (f := fun v sl h1 => ofR (mo sl h1) sl fun ov h2 => ofR (mi sl h2) sl fun iv h3 => match vSet ov iv v h3 with
    | some h4 => .nx sl h4
    | none => .bad) R S .nil q).mono fun x H1 ⟨ia, sl, h, v, R, S, r, q⟩ => ?_
  refine (step (f := fun ov sl h2 => ofR (mi sl h2) sl fun iv h3 => match vSet ov iv v h3 with
    | some h4 => .nx sl h4
    | none => .bad) R S r q).mono fun x H1 ⟨ia, sl, h, ov, R, S, r, q⟩ => ?_
  refine (step (f := fun iv sl h3 => match vSet ov iv v h3 with
    | some h4 => .nx sl h4
    | none => .bad) R S r q).mono fun x H1 ⟨ia, sl, h, iv, R, S, r, q⟩ => ?_
  split at q
  · rename_i h4 e
    cases r with
    | cons r1 r =>
      cases r with
      | cons r2 r =>
        cases r with
        | cons r3 _ =>
          refine ⟨ia, h, ov, iv, v, h4, R, r2, r1, r3, e, fun H' g R' => ?_⟩
          refine q [] H' st g (by rw [app_nil]; exact R') ?_
          exact S.grow g R
  · exact (show False from q).elim
theorem par_read {ml : M (List Val)} {i j : Nat} {D : Ends} {st : L2.St} {H : Hp} (h : tS K ca W (fun sl h => ofR ((ml sl h).bind fun vs h1 => chk (decide (vs.length ≤ sizeLine)) (.ok (.tup vs) h1)) sl fun v h1 => nxB (.tp [.nm i, .nm j]) v sl h1) D st H) : tPar i j (tOfL K ca W ml) D st H := by
  obtain ⟨ia, sl, h, R, S, q⟩ := h
  refine ⟨ia, sl, h, R, S, .nil, ?_⟩
  dsimp only at q
  cases e : ml sl h with
  | bad => rw [e] at q; exact q
  | exc c v h' =>
    rw [e] at q
    exact fun ka H' d y g R' hd r' => q ka H' d y st g R' hd r' (S.grow g R)
  | ok vs h1 =>
    rw [e] at q
    intro ka H1 xs g R1 rs
    have q1 : WantS K ca ia H (ofR (chk (decide (vs.length ≤ sizeLine)) (.ok (.tup vs) h1)) sl fun v h1 => nxB (.tp [.nm i, .nm j]) v sl h1) D W := q
    cases hd : decide (vs.length ≤ sizeLine) with
    | false => rw [hd] at q1; exact (show False from q1).elim
    | true =>
      rw [hd] at q1
      have q2 : WantS K ca ia H (match bindTs [.nm i, .nm j] vs sl with
        | some sl1 => .nx sl1 h1
        | none => .bad) D W := q1
      cases rs with
      | nil => exact (show False from q2).elim
      | cons r1 rs =>
        cases rs with
        | nil => exact (show False from q2).elim
        | cons r2 rs =>
          cases rs with
          | cons _ _ => exact (show False from q2).elim
          | nil =>
            refine ⟨_, _, rfl, ?_⟩
            exact q2 ka H1 _ g R1 (((S.grow g R).set r1).set r2)
theorem ret_read {m : M Val} {D : Ends} {st : L2.St} {H : Hp} (h : tS K ca W (fun sl h => ofR (m sl h) sl fun v h1 => .rt v h1) D st H) : tRet (tOf K ca W m) D st H := by
  refine (tS.ofR (f := fun v sl h1 => .rt v h1) h).mono fun x H1 ⟨ia, sl, h, v, R, S, r, q⟩ => ?_
  exact q [] H1 x (Grow.refl ia H1) (by rw [app_nil]; exact R) (by rw [app_nil]; exact r)
theorem ex_read {m : M Val} {D : Ends} {st : L2.St} {H : Hp} (h : tS K ca W (fun sl h => ofR (m sl h) sl fun _ h1 => .nx sl h1) D st H) : tDrop (tOf K ca W m) D st H := by
  refine (tS.ofR (f := fun v sl h1 => .nx sl h1) h).mono fun x H1 ⟨ia, sl, h, v, R, S, r, q⟩ => ?_
  exact WantS.nxNow q R S
theorem if_read {mt : M Bool} {ma mb : MS} {D : Ends} {st : L2.St} {H : Hp} (h : tS X.K ca W (fun sl h => ofRB (mt sl h) sl fun x h1 => match x with
    | true => ma sl h1
    | false => mb sl h1) D st H) : tIfS (tOfB X.K ca W mt) (tS X.K ca W ma) (tS X.K ca W mb) D st H := by
  refine tCB.mono (tS.ofRB (f := fun x sl h1 => match x with
    | true => ma sl h1
    | false => mb sl h1) h) fun b H1 t => ?_
  cases b with
  | true => rw [if_pos rfl]; exact t
  | false => rw [if_neg Bool.false_ne_true]; exact t
section
variable {P : Program} {w : World} {mg : Str → Option Value} {base : Heap} {g : Glo} {G : Prg} {n : Nat}
theorem trG_name {N : List Str} {sc : Scope} {m : Nat} {x : Str} {p : Pos} {t : ITg} (h : trG N sc m (.Name x p) = some t) : ∃ i, t = .nm i ∧ N[i]? = some x := by
  cases m with
  | zero => cases h
  | succ m =>
    unfold trG at h
    dsimp only at h
    split at h
    · obtain ⟨i, e1, e2⟩ := Option.map_eq_some_iff.mp h
      exact ⟨i, e2.symm, idx_ok e1⟩
    · cases h
theorem trG_two {N : List Str} {sc : Scope} {m : Nat} {x y : Str} {p q r : Pos} {k : Nat} {t : ITg} (h : trG N sc m (.Tuple [.Name x p, .Name y q] k r) = some t) : ∃ i j, t = .tp [.nm i, .nm j] ∧ N[i]? = some x ∧ N[j]? = some y := by
  cases m with
  | zero => cases h
  | succ m =>
    unfold trG at h
    dsimp only at h
    obtain ⟨ts, e1, e2⟩ := Option.map_eq_some_iff.mp h
    subst e2
    cases m with
    | zero => cases e1
    | succ m =>
      unfold trGs at e1
      split at e1
      · rename_i t1 ts1 _ h1 h2
        cases e1
        cases m with
        | zero => cases h2
        | succ m =>
          unfold trGs at h2
          split at h2
          · rename_i t2 ts2 _ h3 h4
            cases h2
            cases m with
            | zero =>
              cases h4
              obtain ⟨i, rfl, hi⟩ := trG_name h1
              obtain ⟨j, rfl, hj⟩ := trG_name h3
              exact ⟨i, j, rfl, hi, hj⟩
            | succ m =>
              cases h4
              obtain ⟨i, rfl, hi⟩ := trG_name h1
              obtain ⟨j, rfl, hj⟩ := trG_name h3
              exact ⟨i, j, rfl, hi, hj⟩
          · cases h2
      · cases e1
/-- two names, both plain locals -/
theorem two_names {sc : Scope} {ts : List Expr} {L : Nat} (h2 : ts.length = 2) (h : (ts.filterMap fun
      | .Name id pos => if sc.names.lookup id == some .local && pos.line == L then some id else none
      | _ => none).length = ts.length) (hd : (ts.filterMap fun
      | .Name id pos => if sc.names.lookup id == some .local && pos.line == L then some id else none
      | _ => none).eraseDups.length = ts.length) : ∃ x p y q, ts = [.Name x p, .Name y q] ∧ sc.names.lookup x = some .local ∧ sc.names.lookup y = some .local ∧ x ≠ y ∧ (ts.filterMap fun
      | .Name id pos => if sc.names.lookup id == some .local && pos.line == L then some id else none
      | _ => none) = [x, y] := by
  have one : ∀ (e : Expr) (l : List Expr), ((e :: l).filterMap fun
      | .Name id pos => if sc.names.lookup id == some .local && pos.line == L then some id else none
      | _ => none).length = (e :: l).length → ∃ x p, e = .Name x p ∧ sc.names.lookup x = some .local ∧ ((e :: l).filterMap fun
      | .Name id pos => if sc.names.lookup id == some .local && pos.line == L then some id else none
      | _ => none) = x :: (l.filterMap fun
      | .Name id pos => if sc.names.lookup id == some .local && pos.line == L then some id else none
      | _ => none) := by
    intro e l hl
    rw [List.filterMap_cons] at hl
    split at hl
    · have := List.length_filterMap_le (fun
      | .Name id pos => if sc.names.lookup id == some .local && pos.line == L then some id else none
      | _ => none) l
      simp only [List.length_cons] at hl
      omega
    · rename_i b hb
      split at hb
      · rename_i x p
        split at hb
        · rename_i hc
          cases hb
          refine ⟨_, _, rfl, ?_, ?_⟩
          · have := (Bool.and_eq_true_iff.mp hc).1
            simpa using this
          · rw [List.filterMap_cons]
            simp only [hc, if_true]
        · cases hb
      · cases hb
  match ts, h2 with
  | [a, b], _ =>
    obtain ⟨x, p, e1, l1, f1⟩ := one a [b] h
    rw [f1] at h hd
    obtain ⟨y, q, e2, l2, f2⟩ := one b [] (by simpa using h)
    rw [f2] at hd
    subst e1 e2
    refine ⟨x, p, y, q, rfl, l1, l2, fun z => ?_, by rw [f1, f2]; rfl⟩
    subst z
    have e0 : ([x, x] : List Str).eraseDups.length = 1 := by
      simp [List.eraseDups_cons]
    have hd' : ([x, x] : List Str).eraseDups.length = 2 := hd
    omega
end
end
end Mi

set_option Elab.async false
set_option linter.all false
set_option maxRecDepth 100000
set_option maxHeartbeats 4000000
/-! D20: a statement's step, a def's step. -/
namespace Mi
open PySem L2 PyProof.Rows
section
variable {P : Program} {w : World} {K : PySem.W.Frag} {mg : Str → Option Value} {base : Heap} {g : Glo} {G : Prg} {ca : Str → Addr} {n : Nat}
theorem noSet_fold {iter : Expr} (h : noSet iter = true) (env : Env) : ∀ x, foldedSetIterable iter env x = pure x := by
  intro x
  cases iter <;> first | rfl | cases h
theorem asg_sub {o i : Expr} {pos : Pos} {env : Env} (h : noSlice i = true) : ∀ v, assign (.Subscript o i pos) env v = (do
      let ov ← holding [v] (eval o env)
      let iv ← holding [v, ov] (eval i env)
      standAt pos
      holding [v, ov, iv] (setItem ov iv v)
      release [v, ov, iv] []) := by
  intro v
  cases i <;> first | rfl | cases h
theorem sub_sw {o i : Expr} {pos : Pos} (e : Expr) (env : Env) : swappedStores [.Subscript o i pos] e env = pure none := by
  cases e <;> rfl
theorem trE_tup {N : List Str} {m : Nat} {sc : Scope} {vs : List Expr} {k : Nat} {p : Pos} {ie : IE} (h : trE g N m sc (.Tuple vs k p) = some ie) : ∃ m' is, m = m' + 1 ∧ mapX (trE g N m' sc) vs = some is ∧ ie = .tp is := by
  cases m with
  | zero => cases h
  | succ m =>
    unfold trE at h
    obtain ⟨is, e1, e2⟩ := Option.map_eq_some_iff.mp h
    exact ⟨m, is, rfl, e1, e2.symm⟩
theorem asg_step (hE : ∀ m, m ≤ n → EOk P w K mg base g G ca m) (hT : ∀ m, m ≤ n → TOk P w K mg base g G ca m) {X : Cx} {N : List Str} {sc : Scope} {d m : Nat} {E : XK} (c : Cok P w K mg base g G X N sc sc d) (tk : Takes X (wE E)) {tg e : Expr} {pos : Pos} {t : ITg} {ie : IE}
    (h1 : trG N sc m tg = some t) (h2 : trE g N m sc e = some ie) (h3 : asgOk sc tg e = true) : PS X (.Assign [tg] e pos) (tS K ca (wE E) (fun sl h => ofR ((run G n).e d ie sl h) sl fun v h1 => nxB t v sl h1)) := by
  have he := hE n (Nat.le_refl n) X N sc sc d E m e ie c tk h2
  have hg : PG X tg (gB K ca t) := by
    have q := d_tg (ca := ca) c.tg h1
    rw [c.hK] at q
    exact q
  have hk : X.env.scope.kind = .function := by rw [c.scope]; exact c.kind
  have a1 : (assignEach [tg] X.env).map (·.2) = [assign tg X.env] := by
    cases tg <;> first | rfl | (cases m <;> cases h1)
  have plain : swapsWithSole [tg] e pos.line X.env = pure false → swappedStores [tg] e X.env = pure none → PS X (.Assign [tg] e pos) (tS K ca (wE E) (fun sl h => ofR ((run G n).e d ie sl h) sl fun v h1 => nxB t v sl h1)) := fun z1 z2 => ps_imp (ps_asg he hg z1 z2 a1) fun D st H q => asg_read q
  cases e with
  | ListComp elt gs scope ep =>
    cases tg with
    | Name y py =>
      cases hl : lcSw sc scope y py ep with
      | false => exact plain (by rw [sw_lc hk, c.scope, hl]) rfl
      | true =>
        cases m with
        | zero => cases h2
        | succ m =>
          unfold trE at h2
          split at h2
          all_goals first | (rename_i heq; cases heq; done) | (cases h2; done) | skip
          · rename_i heq
            cases heq
            dsimp only at h2
            split at h2
            · rename_i k es t' is i z1 z2 z3 z4 z5
              split at h2
              · rename_i z6
                cases h2
                cases n with
                | zero => exact ⟨fun pins s st H D I t => by obtain ⟨_, _, _, _, _, q⟩ := t; exact (show False from q).elim⟩
                | succ n =>
                  obtain ⟨ok, hset, hown, hi, hg', ht, he'⟩ := e_lc (n := n) (fun m hm => hE m (Nat.le_succ_of_le hm)) (fun m hm => hT m (Nat.le_succ_of_le hm)) c tk z1 z2 z3 z4 z5 z6
                  obtain ⟨i0, rfl, hi0⟩ := trG_name h1
                  unfold lcSw at hl
                  simp only [Bool.and_eq_true, beq_iff_eq, Bool.not_eq_true'] at hl
                  obtain ⟨⟨l1, l2⟩, l3⟩ := hl
                  have hyl : X.env.scope.names.lookup y = some .local := by rw [c.scope]; exact l1
                  obtain ⟨tgk, hsc, kind, room, gok, gd, cok, rfl, rfl, rfl, rfl, rfl⟩ := c
                  refine ps_imp (ps_setLc (g := gB X.K ca t') (tt := fun st H Q => ∃ m, m ≤ n ∧ tOfB X.K ca W0 (tsIf ((run G m).t d) is) st H Q) (te := fun st H Q => ∃ m, m ≤ n ∧ tOf X.K ca W0 ((run G m).e d i) st H Q) tgk.calm (by rw [tgk.n]; exact tgk.nd) (by rw [tgk.n]; exact hi0) hyl
                    (sw_true hk hyl (by simpa using l2) l3) hi ok hg' (fun s H C cl fp => ⟨fun pins s' st H' Q I ⟨m, hm, t⟩ => (ht m hm s H C cl fp).run pins s' st H' Q I t⟩) (fun s H C cl fp => ⟨fun pins s' st H' Q I ⟨m, hm, t⟩ => (he' m hm s H C cl fp).run pins s' st H' Q I t⟩) ?_) fun D st H q => ?_
                  · exact noSet_fold hset _
                  · have q1 := asg_read q
                    have q2 : tOf X.K ca (wE E) ((run G (n + 1)).e d (.lc t' k es is i ((ownOf N _).map (·.2)))) st H (fun x H1 => gName i0 x st H1 D.nx) := tC.mono q1 fun x H1 z => gB_nm (X := X) z
                    exact lc_read (evL ((run G n).e d) es) hown q2
              · cases h2
            · cases h2
    | _ => cases h3
  | Tuple vs k2 p2 =>
    cases tg with
    | Tuple ts k1 p1 =>
      unfold asgOk at h3
      dsimp only at h3
      split at h3
      · rename_i hs
        obtain ⟨o, e1, e2, _⟩ := sw_tup (X := X) (k1 := k1) (k2 := k2) (p1 := p1) (p2 := p2) hk (by rw [c.scope]; exact hs)
        exact plain rfl (by rw [e1, e2 rfl])
      · rename_i hs
        obtain ⟨o, e1, _, e2⟩ := sw_tup (X := X) (k1 := k1) (k2 := k2) (p1 := p1) (p2 := p2) hk (by rw [c.scope]; exact hs)
        obtain ⟨e2', e3, e4, e5⟩ := e2 rfl
        obtain ⟨x, p, y, q, rfl, l1, l2, hxy, hnm⟩ := two_names (of_decide_eq_true h3) e3 e5
        obtain ⟨i, j, rfl, hi, hj⟩ := trG_two h1
        obtain ⟨m', is, rfl, z1, rfl⟩ := trE_tup h2
        have hl2 : vs.length = 2 := e4
        match vs, hl2 with
        | [a, b], _ =>
          cases n with
          | zero => exact ⟨fun pins s st H D I t => by obtain ⟨_, _, _, _, _, q⟩ := t; exact (show False from q).elim⟩
          | succ n =>
            have ih : ∀ e ie, trE g N m' sc e = some ie → PE X e (tOf K ca (wE E) ((run G n).e d ie)) := fun e ie z => hE n (Nat.le_succ n) X N sc sc d E m' e ie c tk z
            obtain ⟨tgk, hsc, kind, room, gok, gd, cok, rfl, rfl, rfl, rfl, rfl⟩ := c
            have ha := d_list (ca := ca) (W := wE E) ih z1
            refine ps_imp (ps_par tgk.calm (by rw [tgk.n]; exact tgk.nd) (by rw [tgk.n]; exact hi) (by rw [tgk.n]; exact hj) (fun z => ?_) l1 l2 ha (by rw [e1, e2']; exact congrArg (fun l => pure (some l)) hnm)) fun D st H q => par_read q
            subst z
            rw [hi] at hj
            exact hxy (Option.some.inj hj)
      · cases h3
    | Name y py => exact plain rfl rfl
    | _ => cases m <;> cases h1
  | SetComp _ _ _ _ => cases h3
  | DictComp _ _ _ _ _ => cases h3
  | _ => exact plain (sw_not rfl) (by cases tg <;> rfl)
theorem s1_step (hE : ∀ m, m ≤ n → EOk P w K mg base g G ca m) (hT : ∀ m, m ≤ n → TOk P w K mg base g G ca m) (hS : ∀ m, m ≤ n → SOk P w K mg base g G ca m) {X : Cx} {N : List Str} {sc : Scope} {d m : Nat} {E : XK} (c : Cok P w K mg base g G X N sc sc d) (tk : Takes X (wE E))
    (hp : PassesOwn (model X.prog X.w) X.A X.env X.xe) {st : Stmt} {i : IS} (h : trS1 g N (trS g N m sc) m sc st = some i) : PS X st (tS K ca (wE E) (stS1 (run G n) d i)) := by
  have ih : ∀ e ie, trE g N m sc e = some ie → PE X e (tOf K ca (wE E) ((run G n).e d ie)) := fun e ie z => hE n (Nat.le_refl n) X N sc sc d E m e ie c tk z
  have iht : ∀ e ie, trE g N m sc e = some ie → PT X e (tOfB K ca (wE E) ((run G n).t d ie)) := fun e ie z => hT n (Nat.le_refl n) X N sc sc d E m e ie c tk z
  have ihs : ∀ s b, trS g N m sc s = some b → PSs X s (tS K ca (wE E) ((run G n).s d b)) := fun s b z => hS n (Nat.le_refl n) X N sc d E m s b c tk hp z
  have hu := c.room.un
  unfold trS1 at h
  split at h
  · cases h
    exact ps_imp ps_doc fun D st H t => by
      obtain ⟨ia, sl, h, R, S, q⟩ := t
      exact WantS.nxNow q R S
  · split at h
    · rename_i ie z0 z1
      cases h
      exact ps_imp (ps_expr (ih _ _ z1) (sw_none z0)) fun D st H t => ex_read t
    · cases h
  · split at h
    · split at h
      · rename_i a b cc z0 z1 z2 z3
        cases h
        obtain ⟨z0, z4⟩ := Bool.and_eq_true_iff.mp z0
        obtain ⟨tgk, hsc, kind, room, gok, gd, cok, rfl, rfl, rfl, rfl, rfl⟩ := c
        exact ps_imp (ps_asg (ih _ _ z3) (pg_sub (ih _ _ z1) (ih _ _ z2) (set_any (ca := ca) (by omega)) (asg_sub z4)) (sw_not z0) (sub_sw _ _) rfl) fun D st H t => sub_read t
      · cases h
    · split at h
      · rename_i t ie z1 z2 z3
        cases h
        exact asg_step hE hT c tk z1 z2 z3
      · cases h
  · cases h
    exact ps_imp ps_retN fun D st H t => by
      obtain ⟨ia, sl, h, R, S, q⟩ := t
      exact q [] H .non (Grow.refl ia H) (by rw [app_nil]; exact R) .non
  · obtain ⟨ie, e1, e2⟩ := Option.map_eq_some_iff.mp h
    subst e2
    exact ps_imp (ps_ret (ih _ _ e1)) fun D st H t => ret_read t
  · split at h
    · rename_i ic x y z1 z2 z3
      cases h
      obtain ⟨tgk, hsc, kind, room, gok, gd, cok, rfl, rfl, rfl, rfl, rfl⟩ := c
      exact ps_imp (ps_if (iht _ _ z1) (ihs _ _ z2) (ihs _ _ z3)) fun D st H t => if_read t
    · cases h
  · split at h
    · rename_i k es t b z0 z1 z2 z3
      cases h
      have hi := d_src (ca := ca) (W := wE E) (ev := (run G n).e d) c.scope c.gok (fun e ie he => by rw [c.hK]; exact ih e ie he) z1
      have hg := d_tg (ca := ca) c.tg z2
      rw [c.hK] at hi hg
      refine ps_imp (ps_for (tb := fun D st H => ∃ m, m ≤ n ∧ tS K ca (wE E) ((run G m).s d b) D st H) hp c.tg.calm hi hg ⟨fun pins s st H D I ⟨m', hm, t⟩ => (hS m' hm X N sc d E m _ b c tk hp z3).run pins s st H D I t⟩ (noSet_fold z0 _)) fun D st H t => ?_
      exact for_read (es := es) (evL ((run G n).e d) es) t
    · cases h
  · split at h
    · rename_i ic b z1 z2
      cases h
      refine ps_imp (ps_while (tc := fun st H Q => ∃ m, m ≤ n ∧ tOfB K ca (wE E) ((run G m).t d ic) st H Q) (tb := fun D st H => ∃ m, m ≤ n ∧ tS K ca (wE E) ((run G m).s d b) D st H) hp
        ⟨fun pins s st H Q I ⟨m', hm, t⟩ => (hT m' hm X N sc sc d E m _ ic c tk z1).run pins s st H Q I t⟩ ⟨fun pins s st H D I ⟨m', hm, t⟩ => (hS m' hm X N sc d E m _ b c tk hp z2).run pins s st H D I t⟩) fun D st H t => ?_
      exact while_read t
    · cases h
  · cases h
    exact ps_imp ps_break fun D st H t => by
      obtain ⟨ia, sl, h, R, S, q⟩ := t
      exact q [] H st (Grow.refl ia H) (by rw [app_nil]; exact R) (by rw [app_nil]; exact S)
  · cases h
    exact ps_imp ps_continue fun D st H t => by
      obtain ⟨ia, sl, h, R, S, q⟩ := t
      exact q [] H st (Grow.refl ia H) (by rw [app_nil]; exact R) (by rw [app_nil]; exact S)
  · cases h
    exact ps_imp ps_pass fun D st H t => by
      obtain ⟨ia, sl, h, R, S, q⟩ := t
      exact WantS.nxNow q R S
  · cases h
    exact ps_imp ps_never fun D st H t => by
      obtain ⟨ia, sl, h, R, S, q⟩ := t
      exact q
  · cases h
theorem s_step (hE : ∀ m, m ≤ n → EOk P w K mg base g G ca m) (hT : ∀ m, m ≤ n → TOk P w K mg base g G ca m) (hS : ∀ m, m ≤ n → SOk P w K mg base g G ca m) : SOk P w K mg base g G ca (n + 1) := by
  intro X N sc d E m sts ib c tk hp h
  show PSs X sts (tS K ca (wE E) (stS (run G n) d ib))
  cases sts with
  | nil =>
    have : ib = [] := by
      cases m <;> (cases h; rfl)
    subst this
    exact pss_imp pss_nil fun D st H t => by
      obtain ⟨ia, sl, h, R, S, q⟩ := t
      exact WantS.nxNow q R S
  | cons st rest =>
    cases m with
    | zero => cases h
    | succ m =>
      unfold trS at h
      split at h
      · rename_i i is z1 z2
        cases h
        refine pss_imp (pss_cons (s1_step hE hT hS c tk hp z1) (hS n (Nat.le_refl n) X N sc d E m rest is c tk hp z2)) fun D st H t => ?_
        exact tS.seq (m := stS1 (run G n) d i) (m2 := (run G n).s d is) t
      · cases h
end
end Mi

set_option Elab.async false
set_option linter.all false
set_option maxRecDepth 100000
set_option maxHeartbeats 4000000
/-! D21: all of it. -/
namespace Mi
open PySem L2 PyProof.Rows
/-- the defs' texts -/
structure DefOk (K : PySem.W.Frag) (mg : Str → Option Value) (g : Glo) (G : Prg) (x : Str) (k : Nat) (D : DefI) (f : Addr) (fd : FuncData) (ps : List Str) (nm qual : Str) (st : Stmt) (N : List Str) (m : Nat) : Prop where
  at_ : G.defs[k]? = some D
  mg : mg x = some (.ref f)
  fn : Fun K nm qual st f fd
  sc : FnScope N ps (defScope st)
  bi : Binds K fd ps []
  ps : D.ps = ps.length
  n : D.n = N.length
  body : trS g N m (defScope st) (defBody st) = some D.body
def DefsOk (K : PySem.W.Frag) (mg : Str → Option Value) (g : Glo) (G : Prg) : Prop := ∀ (x : Str) (k : Nat), g.lookup x = some (.fn k) → ∃ D f fd ps nm qual st N m, DefOk K mg g G x k D f fd ps nm qual st N m
section
variable {P : Program} {w : World} {K : PySem.W.Frag} {mg : Str → Option Value} {base : Heap} {g : Glo} {G : Prg} {ca : Str → Addr} {n : Nat}
theorem rs_start {ia : List Addr} {H : Hp} {args : List Val} {vs : List V} {N : List Str} (r : RVs K ia H args vs) : RS K ia H (args.map some ++ List.replicate (N.length - args.length) none) (L2.start N vs) := by
  have hl := r.len
  refine ⟨by simp [L2.start, hl], fun i v e => ?_⟩
  by_cases hi : i < args.length
  · rw [List.getElem?_append_left (by simpa using hi), List.getElem?_map] at e
    obtain ⟨v', e1, e2⟩ := Option.map_eq_some_iff.mp e
    cases e2
    obtain ⟨y, e3, ry⟩ := r.get e1
    refine ⟨y, ?_, ry⟩
    unfold L2.start
    rw [List.getElem?_append_left (by simp; omega), List.getElem?_map, e3]
    rfl
  · rw [List.getElem?_append_right (by simp; omega)] at e
    have := List.mem_of_getElem? e
    simp at this
theorem def_ok (gok : GOk g K mg) (cok : COk P K mg g G) {x : Str} {k : Nat} {D : DefI} {f : Addr} {fd : FuncData} {ps : List Str} {nm qual : Str} {st : Stmt} {N : List Str} {m : Nat} (h : DefOk K mg g G x k D f fd ps nm qual st N m) (hS : SOk P w K mg base g G ca n) (d : Nat) :
    FnG P w K mg base (L2.CX P w) (d + 1) f fd ps (spC K ca ((run G (n + 1)).c d k)) := by
  have e0 : ∀ (args : List Val) (hh : LH), (run G (n + 1)).c d k args hh = (match decide (args.length = D.ps) with
    | false => .bad
    | true => (match (run G n).s d D.body (args.map some ++ List.replicate (D.n - args.length) none) hh with
      | .rt v h1 => .ok v h1
      | .nx _ h1 => .ok .non h1
      | .exc c v _ h1 => .exc c v h1
      | _ => .bad)) := by
    intro args hh
    show stC G (run G n) d k args hh = _
    unfold stC
    first
      | (rw [h.at_]; done)
      | (rw [h.at_]; rfl)
  refine fnG_of h.fn h.sc (fun vs H Q E q => ?_) (fun cdv A outer s H vs Q E hgd hr q => ?_)
  · obtain ⟨ia, hh, args, R, r, q⟩ := q
    rw [e0] at q
    cases hd : decide (args.length = D.ps) with
    | false => rw [hd] at q; exact (show False from q).elim
    | true =>
      rw [← r.len, of_decide_eq_true hd, h.ps]
  · obtain ⟨ia, hh, args, R, r, q⟩ := q
    rw [e0] at q
    refine ⟨tS K ca (wE E) ((run G n).s d D.body), ?_, ?_⟩
    · refine hS _ N (defScope st) d E m _ D.body ⟨⟨rfl, h.sc.nd, rfl, fun y hy => ⟨?_, .inl rfl⟩⟩, rfl, h.sc.kind, hr, gok, hgd, cok, rfl, rfl, rfl, rfl, rfl⟩ (takes_of rfl rfl rfl rfl) (passes_of rfl) h.body
      unfold locB at hy
      split at hy
      · exact .inl (by assumption)
      · exact .inr (by assumption)
      · cases hy
    · refine ⟨ia, _, hh, R, rs_start (N := N) r, ?_⟩
      cases hd : decide (args.length = D.ps) with
      | false => rw [hd] at q; exact (show False from q).elim
      | true =>
        rw [hd, h.n] at q
        dsimp only at q
        cases e : (run G n).s d D.body (args.map some ++ List.replicate (N.length - args.length) none) hh with
        | bad => rw [e] at q; exact q
        | bk _ _ => rw [e] at q; exact (show False from q).elim
        | ct _ _ => rw [e] at q; exact (show False from q).elim
        | rt v h1 => rw [e] at q; exact q
        | nx sl h1 =>
          rw [e] at q
          exact fun ka H' st g R' S' => q ka H' .non g R' .non
        | exc c v sl h1 =>
          rw [e] at q
          exact fun ka H' d w st g R' hd r' S' => q ka H' d w g R' hd r'
theorem c_step (gok : GOk g K mg) (cok : COk P K mg g G) (dok : DefsOk K mg g G) (hS : SOk P w K mg base g G ca n) : FnsOk P w K mg base g G ca (n + 1) := by
  intro x k hx
  obtain ⟨D, f, fd, ps, nm, qual, st, N, m, h⟩ := dok x k hx
  exact ⟨f, fd, ps, h.mg, h.fn.kp, h.bi, fun d => def_ok gok cok h hS d⟩
theorem all_ok (gok : GOk g K mg) (cok : COk P K mg g G) (dok : DefsOk K mg g G) : ∀ n, (∀ m, m ≤ n → EOk P w K mg base g G ca m) ∧ (∀ m, m ≤ n → TOk P w K mg base g G ca m) ∧ (∀ m, m ≤ n → SOk P w K mg base g G ca m) ∧ FnsOk P w K mg base g G ca n
  | 0 => by
    refine ⟨fun m hm => ?_, fun m hm => ?_, fun m hm => ?_, fun x k hx => ?_⟩
    · cases Nat.le_zero.mp hm
      intro X N sc scL d E m e ie c tk h
      exact ⟨fun pins s st H Q I t => by obtain ⟨_, _, _, _, _, _, q⟩ := t; exact (show False from q).elim⟩
    · cases Nat.le_zero.mp hm
      intro X N sc scL d E m e ie c tk h
      exact ⟨fun pins s st H Q I t => by obtain ⟨_, _, _, _, _, _, q⟩ := t; exact (show False from q).elim⟩
    · cases Nat.le_zero.mp hm
      intro X N sc d E m e ie c tk hp h
      exact ⟨fun pins s st H D I t => by obtain ⟨_, _, _, _, _, q⟩ := t; exact (show False from q).elim⟩
    · obtain ⟨D, f, fd, ps, nm, qual, st, N, m, h⟩ := dok x k hx
      exact ⟨f, fd, ps, h.mg, h.fn.kp, h.bi, fun d => ⟨fun vs H Q E q => by obtain ⟨_, _, _, _, _, q⟩ := q; exact (show False from q).elim, fun A outer s H args us vs Q E _ _ _ _ _ q => by obtain ⟨_, _, _, _, _, q⟩ := q; exact (show False from q).elim⟩⟩
  | n + 1 => by
    obtain ⟨hE, hT, hS, hF⟩ := all_ok gok cok dok n
    have k : ∀ {p : Nat → Prop}, (∀ m, m ≤ n → p m) → p (n + 1) → ∀ m, m ≤ n + 1 → p m := fun {p} a b m hm => by
      rcases Nat.lt_or_ge n m with z | z
      · have : m = n + 1 := by omega
        subst this
        exact b
      · exact a m z
    exact ⟨k hE (e_step hE hT hF), k hT (t_step hE hT), k hS (s_step hE hT hS), c_step gok cok dok (hS n (Nat.le_refl n))⟩
end
end Mi

set_option Elab.async false
set_option linter.all false
set_option maxRecDepth 100000
set_option maxHeartbeats 2000000
/-! H1: the head's facts, read off the written part. -/
namespace Mi
open PySem L2 PyProof.Rows
/-- the objects that the names reach -/
def nxA (g : Addr → Option Obj) (as : List Addr) : List Addr := as.flatMap fun a => match g a with
  | some o => He.refsD o
  | none => []
def asN (g : Addr → Option Obj) (names : List Str) : List Addr :=
  let a1 := names.map (He.ga (He.frG g [mainGlobals]))
  let a2 := nxA g a1
  let a3 := nxA g a2
  let a4 := nxA g a3
  [mainGlobals, cStatics, sysModules] ++ (a1 ++ (a2 ++ (a3 ++ a4)))
/-- the text of an __init__ -/
abbrev FnI : Type := Option (Str × Str × Arguments × FuncBody × Scope)
def initA (K : PySem.W.Frag) (x : Str) : Addr := He.ma K (He.ga K x) "__init__"
def initO (K : PySem.W.Frag) (x : Str) : FnI := match K.lookup (initA K x) with
  | some ⟨_, _, .func fd, _⟩ => some (fd.name, fd.qualname, fd.params, fd.body, fd.scope)
  | _ => none
/-- the class object -/
def clsB (K : PySem.W.Frag) (C : Addr) : Bool := match K.lookup C with
  | some ⟨.type t, _, .cls cd, sl⟩ => decide (t = "type") && (cd.hasDict && (!cd.hasDel && ((match cd.mro with
    | .ref c :: bm => decide (c = C) && PySem.HandSPX.refsVE bm
    | _ => false) && (match sl.toList with
    | [_, _, _, _, some (.builtin i), _] => decide (i = "ValueError.__new__")
    | _ => false))))
  | _ => false
theorem clsB_ok {K : PySem.W.Frag} {C : Addr} (h : clsB K C = true) : ∃ nm q N bs bm sn sub ab col dd k0 k1 k2 k3 k5, K.lookup C = some (excClassObj nm q C N bs bm true sn sub ab col dd k0 k1 k2 k3 k5 "ValueError.__new__") ∧ PySem.HandSPX.refsVE bm = true := by
  unfold clsB at h
  split at h
  · rename_i t dd cd sl hl
    simp only [Bool.and_eq_true, decide_eq_true_eq, Bool.not_eq_true'] at h
    obtain ⟨rfl, h1, h2, h3, h4⟩ := h
    split at h3
    · rename_i c bm hm
      simp only [Bool.and_eq_true, decide_eq_true_eq] at h3
      obtain ⟨rfl, h3⟩ := h3
      split at h4
      · rename_i k0 k1 k2 k3 i k5 hs
        have hi := of_decide_eq_true h4
        subst hi
        obtain ⟨nm, bs, mro, ns, qn, hd, sn, sb, ab, col, del⟩ := cd
        dsimp only at h1 h2 hm
        subst h1 h2 hm
        obtain ⟨l⟩ := sl
        have hs' : l = _ := hs
        subst hs'
        exact ⟨nm, qn, ns, bs, bm, sn, sb, ab, col, dd, k0, k1, k2, k3, k5, hl, h3⟩
      · cases h4
    · cases h3
  · cases h
def fnIB (file : Str) (K : PySem.W.Frag) (D fI : Addr) : Bool := match K.lookup fI with
  | some ⟨_, _, .func fd, _⟩ => (match fd.defaults with
      | .none => true
      | _ => false) && (decide (fd.globals = mainGlobals) && (decide (fd.builtins = builtinsNs) && (match fd.code, fd.closure with
    | .ref cda, [(n, cc)] => decide (n = ("__class__" : Str)) && (PySem.W.codeIn K (.ref cda) fd.qualname && ((match K.lookup cda with
        | some (Obj.mk _ _ (Data.fields vs) _) => (match (vs[2]? : Option Value) with
          | some (Value.str f _) => file == f
          | _ => false)
        | _ => false) && (match K.lookup cc with
        | some ⟨_, _, .cell (some (.ref d)), _⟩ => decide (d = D)
        | _ => false)))
    | _, _ => false)))
  | _ => false
/-- what is checked of an own exception class -/
def errB (P : Program) (K : PySem.W.Frag) (x0 x : Str) : Bool :=
  let C := He.ga K x
  let D := He.ga K x0
  let fI := initA K x
  clsB K C && (fnIB P.main.file K D fI && (decide (initA K x0 = fI) && ((PySem.W.clsIn K D).isSome && (
    He.eqO (PySem.W.findIn K (.ref C) "__init__") (some (some (.ref fI))) && (decide (PySem.W.typeIn K (.ref fI) = some (.type "function")) && (He.eqO (PySem.W.findIn K (.ref C) "__setattr__") (some (some (.builtin "object.__setattr__"))) && (
    decide (PySem.W.subIn K (.ref C) (.type "BaseException") = some true) && (decide (PySem.W.typeIn K (.ref C) = some (.type "type")) && (PySem.W.keepIn K (.ref C) && (decide (PySem.W.mroIn K C (.ref D) = some true) && (
    He.eqO (PySem.W.nsIn K mainGlobals "super") (some none) && (He.eqO (PySem.W.nsIn K cStatics "thirdparty.any") (some none) && (He.eqO (PySem.W.ks_superIn K C D "__init__") (some (some (.builtin "ValueError.__init__"))) && (
    decide (PySem.W.subIn K (.ref C) (.type "ValueError") = some true) && (He.eqO (PySem.W.findIn K (.ref C) "value") (some none) && (xfB K C && (
    He.eqO (PySem.W.findIn K (.ref C) "__class__") (some (some (.builtin "object.__class__"))) && (He.eqO (PySem.W.specialIn K (.builtin "object.__class__") "__get__") (some (some (.builtin "getset_descriptor.__get__"))) && (
    decide (PySem.W.takesIn K (.builtin "object.__class__") = some true) && (decide (PySem.W.mroIn K C (.type "object") = some true) && !(P.main.scope.names.lookup ("super" : Str)).isSome))))))))))))))))))))
/-- what is checked of the __init__'s text (by the text's own terms) -/
structure InitT (iI : FnI) : Prop where
  ex : ∃ (qual : Str) (params : Arguments) (scope : Scope) (p0 p1 p2 p3 p4 p5 p6 p7 p8 p9 : Pos), iI = some (("__init__" : Str), qual, params, FuncBody.stmts (initBody p0 p1 p2 p3 p4 p5 p6 p7 p8 p9), scope) ∧
    (∀ (kV doc pm : Value) (an : Option Addr) (ct : Value) (cc cda : Addr) (a b : Value), bindArgs (PySem.W.ksFn "__init__" qual params (initBody p0 p1 p2 p3 p4 p5 p6 p7 p8 p9) scope .none kV doc pm an (.ref cda) ct cc) ⟨[a, b], []⟩ = pure [(("self" : Str), a), (("value" : Str), b)]) ∧
    (∃ ar, (params.posonlyargs ++ params.args).head? = some ar ∧ ar.arg = "self") ∧ (∀ y ∈ scope.names, y.2 ≠ .cell) ∧ scope.isCoroutine = false ∧ scope.isGenerator = false ∧ scope.kind = .function ∧
    scope.names.lookup ("super" : Str) = some .globalImplicit ∧ scope.names.lookup ("__class__" : Str) = some .free ∧ scope.names.lookup ("self" : Str) = some .local ∧ scope.names.lookup ("value" : Str) = some .local ∧ (p2.endLine == p4.line) = true
theorem errB_ok {P : Program} {K : PySem.W.Frag} {x0 x : Str} {iI : FnI} (T : InitT iI) (hi : initO K x0 = iI) (h : errB P K x0 x = true) : ErrK P K (He.ga K x) := by
  unfold errB at h
  dsimp only at h
  simp only [Bool.and_eq_true, decide_eq_true_eq, Bool.not_eq_true'] at h
  obtain ⟨c1, c2, c3, c4, c5, c6, c7, c8, c9, c10, c11, c12, c13, c14, c15, c16, c17, c18, c19, c20, c21, c22⟩ := h
  have xf := xfB_ok c17
  have exC := c8
  refine ⟨⟨initA K x, He.ga K x0, ⟨clsB_ok c1, He.eqO_ok c7, c8, c9, c10⟩, He.eqO_ok c5, c6, ?_, c11, He.eqO_ok c12, He.eqO_ok c13, He.eqO_ok c14, c15, He.eqO_ok c16, c22⟩, xf, ⟨xf.ga, xf.gg, xf.exC, xf.hdC, He.eqO_ok c18, He.eqO_ok c19, c20, c21⟩, He.eqO_ok c16⟩
  obtain ⟨qual, params, scope, p0, p1, p2, p3, p4, p5, p6, p7, p8, p9, e0, tb, ta, t1, t2, t3, t4, t5, t6, t7, t8, t9⟩ := T.ex
  unfold initO at hi
  rw [c3] at hi
  unfold fnIB at c2
  split at c2
  · rename_i oc od fd osl hl
    rw [hl, e0] at hi
    obtain ⟨n1, n2, n3, n4, n5, n6, n7, n8, n9, n10, n11, n12, n13, n14, n15⟩ := fd
    have e2 : (some (n1, n2, n3, n4, n5) : FnI) = some (("__init__" : Str), qual, params, .stmts (initBody p0 p1 p2 p3 p4 p5 p6 p7 p8 p9), scope) := hi
    simp only [Option.some.injEq, Prod.mk.injEq] at e2
    obtain ⟨rfl, rfl, rfl, rfl, rfl⟩ := e2
    simp only [Bool.and_eq_true, decide_eq_true_eq] at c2
    obtain ⟨d1, d2, d3, d4⟩ := c2
    split at d1
    · subst d2 d3
      split at d4
      · rename_i cda n cc
        simp only [Bool.and_eq_true, decide_eq_true_eq] at d4
        obtain ⟨rfl, d5, d6, d7⟩ := d4
        split at d6
        · rename_i ccl cdd vs ccs hk
          split at d6
          · rename_i file tf hv
            split at d7
            · rename_i cl cld dd csl hce
              have hd := of_decide_eq_true d7
              subst hd
              obtain ⟨cdD, hcd⟩ := Option.isSome_iff_exists.mp c4
              exact ⟨oc, od, _, _, _, _, _, _, _, _, cc, cda, osl, p0, p1, p2, p3, p4, p5, p6, p7, p8, p9, hl, d5, tb _ _ _ _ _ _ _, ta, ⟨ccl, cdd, vs, ccs, file, tf, hk, hv, d6⟩, ⟨cl, cld, csl, hce⟩, ⟨cdD, hcd⟩, t1, t2, t3, t4, t5, t6, t7, t8, t9⟩
            · cases d7
          · cases d6
        · cases d6
      · cases d4
    · cases d1
  · cases c2
end Mi

set_option Elab.async false
set_option linter.all false
set_option maxRecDepth 100000
set_option maxHeartbeats 2000000
/-! H2: the head's Hook; a law's end. -/
namespace Mi
open PySem L2 PyProof.Rows
/-! ### the Hook -/
abbrev AlM : Type := He.AlD × Bool × FnI
def clsAll (P : Program) (K : PySem.W.Frag) (x0 : Str) (errs : List Str) (tI : List (ClR × List (ClR × Bool))) : Bool :=
  (match K.lookup sysModules with
    | some o => decide (o.cls = .type "dict")
    | none => false) && (errs.all (fun x => errB P K x0 x) && tI.all fun p => p.2.all fun q => decide (PySem.W.kitOne K (clV K p.1) (clV K q.1) = some q.2))
def obsM (P : Program) (names : List Str) (fa : List He.Fa) (fn : List He.DefD) (x0 : Str) (errs : List Str) (tI : List (ClR × List (ClR × Bool))) (g : Addr → Option Obj) : AlM :=
  let K := He.frG g (asN g names)
  (He.obsD fa fn K, clsAll P K x0 errs tI, initO K x0)
def hookM (P : Program) (names : List Str) (fa : List He.Fa) (fn : List He.DefD) (x0 : Str) (errs : List Str) (tI : List (ClR × List (ClR × Bool))) (iI : FnI) : PySem.W.Hook where
  α := AlM
  obs := fun s => obsM P names fa fn x0 errs tI s.heap.get?
  val := fun _ => (He.valD fn, true, iI)
  says := fun _ h => ∃ K : PySem.W.Frag, K.In h ∧ He.SaysD fa fn K ∧ clsAll P K x0 errs tI = true ∧ initO K x0 = iI
  of := fun _ _ e => ⟨_, He.frG_in, congrArg (fun z : AlM => z.1) e, congrArg (fun z : AlM => z.2.1) e, congrArg (fun z : AlM => z.2.2) e⟩
  keeps := fun _ _ _ ⟨K, hK, c⟩ k => ⟨K, PySem.W.Frag.In.keeps hK k, c⟩
theorem obsM_eq {P : Program} {names : List Str} {fa : List He.Fa} {fn : List He.DefD} {x0 : Str} {errs : List Str} {tI : List (ClR × List (ClR × Bool))} {iI : FnI} {g : Addr → Option Obj} {s : Shared} (h : ∀ a, g a = s.heap.get? a) :
    obsM P names fa fn x0 errs tI g = (hookM P names fa fn x0 errs tI iI).obs s := by
  have e : g = s.heap.get? := funext h
  rw [e] <;> rfl
/-- a def of the Hook, as the walk takes it -/
theorem fun_of {K : PySem.W.Frag} {x qual : Str} {st : Stmt} {f : Addr} {fd : FuncData} (F : FunD K x qual (defArgs st) (defBody st) (defScope st) [] [] f fd) : Fun K x qual st f fd := by
  obtain ⟨oc, od, dV, kV, doc, pm, an, cdv, ct, osl, e, lk, hcd, hD, hK⟩ := F.ex
  rcases hD with ⟨_, rfl⟩ | ⟨z, _⟩
  · exact ⟨⟨oc, od, kV, doc, pm, an, cdv, ct, osl, e, lk, hcd⟩, F.kp⟩
  · exact absurd rfl z
/-- the classes, of the Hook's answers -/
theorem cok_of {P : Program} {K : PySem.W.Frag} {mg : Str → Option Value} {g : Glo} {G : Prg} {x0 : Str} {iI : FnI} {h : Heap} (X : K.In h) (N : h.Ns mainGlobals mg) (T : InitT iI) (hi : initO K x0 = iI) (c : clsAll P K x0 G.errs G.isiT = true)
    (hg : ∀ x, g.lookup x = some .err → G.errs.contains x = true ∧ (He.Fa.glo x).ok K = true) : COk P K mg g G := by
  unfold clsAll at c
  simp only [Bool.and_eq_true] at c
  obtain ⟨c1, c2, c3⟩ := c
  refine ⟨fun x hx => ⟨He.glo_ok X N (hg x hx).2, (hg x hx).1⟩, fun x hx => ?_, fun t d b hb => ?_, ?_⟩
  · exact errB_ok T hi (List.all_eq_true.mp c2 x (by simpa using hx))
  · unfold isiL at hb
    split at hb
    · rename_i p ep
      obtain ⟨q, e1, e2⟩ := Option.map_eq_some_iff.mp hb
      have h1 := List.find?_some ep
      have h1 : p.1 = t := of_decide_eq_true h1
      have h2 := List.find?_some e1
      have h2 : q.1 = d := of_decide_eq_true h2
      have hq := of_decide_eq_true (List.all_eq_true.mp (List.all_eq_true.mp c3 p (List.mem_of_find?_eq_some ep)) q (List.mem_of_find?_eq_some e1))
      rw [h1, h2] at hq
      rw [← e2]
      exact hq
    · cases hb
  · split at c1
    · rename_i o ho
      exact ⟨o, ho, of_decide_eq_true c1⟩
    · cases c1
/-! ### a law's end -/
theorem law_callG {P : Program} {w : World} {K : PySem.W.Frag} {mg mb : Str → Option Value} {CX : CXT} {k : Nat} {fa a : Addr} {fd : FuncData} {x : Str} {sp : Sp} {s1 : Shared} {vs : List Value} {ns : List Int}
    (KX : K.In s1.heap) (hns : s1.heap.Ns mainGlobals mg) (hb : s1.heap.Ns builtinsNs mb) (hbb : ∀ x : Str, x ≠ "__name__" → mb x = bootBuiltins x) (hlim : s1.heap.NoLimit) (hg : s1.gens = #[])
    (ha : s1.heap.get? a = some { cls := .type "list", data := .seq vs.toArray }) (hi : IntsAre vs ns) (hl : ns.length ≤ sizeLine) (hr : Room k callerA)
    (F : ∀ base : Heap, K.In base → base.Ns mainGlobals mg → FnG P w K mg base CX k fa fd [x] sp) (hbind : ∀ (s : Shared) (u : Value), BindsTo s fd ⟨[u], []⟩ [(x, u)])
    (hsp : ∀ H : Hp, (∀ b, H b = none ∨ ∃ o xs, H b = some (.frz o (.lst xs))) → FzL K H a (ns.map V.int) → sp [.ref a] H (fun v _ => v = .bl true) fun _ _ _ => False)
    (hCX : ∀ H e s', CX [] H s1 (fun _ _ _ => False) e s' → False) :
    codeAny (model P w) callerA (.call (.ref fa) ⟨[.ref a], []⟩) (fun r s' => r = .ok (.ret (.bool true)) ∧ OldK s1.heap s'.heap ∧ s'.os = s1.os ∧ AllBare s'.gens) s1 := by
  have rv := vals_ints hi
  -- the walk over an abstract heap that tracks at most the script, frozen
  have go : ∀ H : Hp, (∀ b, H b = none ∨ b = a ∧ ∃ xs, H b = some (.frz { cls := .type "list", data := .seq vs.toArray } (.lst xs))) → FzL K H a (ns.map V.int) → HOk P w H s1.heap → (H a ≠ none → K.lookup a = none) →
      codeAny (model P w) callerA (.call (.ref fa) ⟨[.ref a], []⟩) (fun r s' => r = .ok (.ret (.bool true)) ∧ OldK s1.heap s'.heap ∧ s'.os = s1.os ∧ AllBare s'.gens) s1 := by
    intro H only hS hok hK
    have notDict : ∀ {b : Addr} {o : Obj} {es : Array DictEntry} {ep : Nat}, s1.heap.get? b = some o → o.data = .dict es ep → H b = none := by
      intro b o es ep e d
      rcases only b with z | ⟨rfl, _⟩
      · exact z
      · rw [ha] at e
        cases e
        have d' : Data.seq vs.toArray _ = Data.dict es ep := d
        cases d'
    have lift : ∀ {b : Addr} {m : Str → Option Value}, s1.heap.Ns b m → (hidT s1.heap H).Ns b m := fun {b m} ⟨o, es, ep, e, d, r⟩ => ⟨o, es, ep, hidT_get e (notDict e d), d, r⟩
    have KB : K.In (hidT s1.heap H) := fun b o e => hidT_get (KX b o e) (by
      rcases only b with z | ⟨rfl, xs, z⟩
      · exact z
      · have n := hK (by rw [z]; simp)
        rw [n] at e
        cases e)
    have hM : Mod K mg (hidT s1.heap H) := ⟨KB, lift hns, ⟨mb, lift hb, hbb⟩, let ⟨mc, h1, h2⟩ := hlim; ⟨mc, lift h1, h2⟩⟩
    have e0 : Env0 P w K mg (hidT s1.heap H) callerA [] s1 H := ⟨rfl, hM, fun b o e => of_hidT e, Nat.le_of_eq (hidT_size _ _), trivial, fun b hb => absurd (show b ∈ ([] : List Addr) from hb) (by simp), hok, .of_eq hg⟩
    have only' : ∀ b, H b = none ∨ ∃ o xs, H b = some (.frz o (.lst xs)) := fun b => (only b).imp id fun ⟨_, xs, z⟩ => ⟨_, xs, z⟩
    refine codeAny_mono ((F _ KB (lift hns)).run callerA [] s1 H ⟨[.ref a], []⟩ [.ref a] [.ref a] _ _ rfl hr e0 (hbind s1 (.ref a)) (.cons rfl .nil) (hsp H only' hS)) fun r s' h => ?_
    match r, h with
    | .error e, h => exact (hCX H e s' h).elim
    | .ok (.ret u), ⟨v, H', os, bare, un, hok', r', q⟩ =>
      obtain rfl : v = .bl true := q
      obtain rfl : u = Value.bool true := r'
      refine ⟨rfl, OldK.of_keep fun b o e => ?_, os, bare⟩
      rcases only b with z | ⟨rfl, xs, z⟩
      · exact un.keep b o e z (by simp [frs]) (by simp)
      · obtain ⟨e1, _⟩ := hok' _ _ (un.frzs _ _ _ z)
        rw [ha] at e
        cases e
        exact e1
  cases hk : K.lookup a with
  | some o =>
    have e := KX a o hk
    rw [ha] at e
    cases e
    exact go (fun _ => none) (fun _ => .inl rfl) (.inr ⟨_, vs.toArray, _, hk, rfl, rfl, rfl, by rw [List.size_toArray, hi.length]; exact hl, by simpa using rv⟩) (fun b u z => nomatch (show (none : Option HO) = some u from z)) fun z => absurd rfl z
  | none =>
    refine go (fun b => if b = a then some (.frz { cls := .type "list", data := .seq vs.toArray } (.lst (ns.map V.int))) else none) (fun b => ?_) (.inl ⟨{ cls := .type "list", data := .seq vs.toArray }, if_pos rfl⟩) (fun b u z => ?_) fun _ => hk
    · by_cases hb : b = a
      · exact .inr ⟨hb, _, if_pos hb⟩
      · exact .inl (if_neg hb)
    · by_cases hb : b = a
      · have z' := (if_pos hb).symm.trans z
        cases z'
        subst hb
        exact ⟨ha, by rw [List.length_map]; exact hl, vs, _, rv, ha⟩
      · have z' := (if_neg hb).symm.trans z
        cases z'
theorem walk_ofG {l : PySem.W.OpenLaw} {n k : Nat} {q : Program} {loose : List Str} {XP : (Str → Option Value) → Heap → Prop} {YP : World → Heap → Prop} {d : DefRec} {CX : World → CXT} {x : Str}
    (hn : l.most = some n) (hn2 : n ≤ sizeLine) (hdf : d.params.defaults = []) (hr : Room k callerA)
    (F : ∀ (w : World) (mg : Str → Option Value) (fa : Addr) (h : Heap), YP w h → h.Ns mainGlobals mg → mg d.name = some (.ref fa) →
      ∃ (K : PySem.W.Frag) (fd : FuncData) (sp : Sp), K.In h ∧ (∀ (s : Shared) (u : Value), BindsTo s fd ⟨[u], []⟩ [(x, u)]) ∧
        (∀ (H : Hp) (a : Addr) (ns : List Int), ns.length ≤ n → (∀ b, H b = none ∨ ∃ o xs, H b = some (.frz o (.lst xs))) → FzL K H a (ns.map V.int) → sp [.ref a] H (fun v _ => v = .bl true) fun _ _ _ => False) ∧
        ∀ base : Heap, K.In base → base.Ns mainGlobals mg → FnG l.prog w K mg base (CX w) k fa fd [x] sp)
    (hCX : ∀ (w : World) (H : Hp) (s : Shared) (e : Value) (s' : Shared), CX w [] H s (fun _ _ _ => False) e s' → False) :
    PySem.W.WalkO q loose XP YP l.row.toRowW d [] (fun f vs => PySem.call f vs) := by
  refine Att.attach_call hn hdf fun w s₀ s₁ mg mb fa o pm cd doc a vs ns G Y ho hd hcd hmg hobj hints hlen hg => ?_
  obtain ⟨K, fd, sp, KX, hb, hsp, hF⟩ := F w mg fa _ Y G.T.g hmg
  exact law_callG KX G.T.g G.T.b G.T.builtins G.T.nolimit hg hobj hints (Nat.le_trans hlen hn2) hr hF hb (fun H hO hS => hsp H a ns hlen hO hS) fun H e s' => hCX w H s₁ e s'
end Mi

set_option Elab.async false
set_option linter.all false
set_option maxRecDepth 100000
set_option maxHeartbeats 1000000
/-! N1: a run does not hang on where its things lie, nor on values that it does not look at. -/
namespace Mi
open PySem L2
section
variable (k : Nat)
mutual
inductive Rn : Val → Val → Prop
  | opq (v : Val) : Rn .opq v
  | non : Rn .non .non
  | bl (b : Bool) : Rn (.bl b) (.bl b)
  | int (i : Int) : Rn (.int i) (.int i)
  | str (x : Str) : Rn (.str x) (.str x)
  | loc (n : Nat) : Rn (.loc n) (.loc (n + k))
  | tup {xs ys : List Val} : Rns xs ys → Rn (.tup xs) (.tup ys)
  | ct {xs ys : List Val} : Rns xs ys → Rn (.ct xs) (.ct ys)
  | cl {xs ys : List Val} : Rns xs ys → Rn (.cl xs) (.cl ys)
  | err {c : Str} {v w : Val} : Rn v w → Rn (.err c v) (.err c w)
inductive Rns : List Val → List Val → Prop
  | nil : Rns [] []
  | cons {x y : Val} {xs ys : List Val} : Rn x y → Rns xs ys → Rns (x :: xs) (y :: ys)
end
inductive Rkv {t : Type} : List (t × Val) → List (t × Val) → Prop
  | nil : Rkv [] []
  | cons {a : t} {x y : Val} {xs ys : List (t × Val)} : Rn k x y → Rkv xs ys → Rkv ((a, x) :: xs) ((a, y) :: ys)
inductive Rob : Ob → Ob → Prop
  | lst {xs ys : List Val} : Rns k xs ys → Rob (.lst xs) (.lst ys)
  | dK {xs ys : List (Key × Val)} : Rkv k xs ys → Rob (.dK xs) (.dK ys)
  | dT {xs ys : List (List Key × Val)} : Rkv k xs ys → Rob (.dT xs) (.dT ys)
  | ins {c : Str} {xs ys : List (Str × Val)} : Rkv k xs ys → Rob (.ins c xs) (.ins c ys)
inductive Rh : LH → LH → Prop
  | nil : Rh [] []
  | cons {a b : Ob} {xs ys : LH} : Rob k a b → Rh xs ys → Rh (a :: xs) (b :: ys)
end
/-- a result, over the elder part h0 of the heap -/
def Rr {α β : Type} (h0 : LH) (R : α → β → Prop) (x : Res α) (y : Res β) : Prop := match x with
  | .ok a h => ∃ b h', y = .ok b (h0 ++ h') ∧ R a b ∧ Rh h0.length h h'
  | .exc c v h => ∃ v' h', y = .exc c v' (h0 ++ h') ∧ Rn h0.length v v' ∧ Rh h0.length h h'
  | .bad => True
def Ro {α β : Type} (R : α → β → Prop) (x : Option α) (y : Option β) : Prop := match x with
  | some a => ∃ b, y = some b ∧ R a b
  | none => True
section
variable {k : Nat}
theorem Rns.len : ∀ {xs ys : List Val}, Rns k xs ys → xs.length = ys.length
  | _, _, .nil => rfl
  | _, _, .cons _ r => by simp [Rns.len r]
theorem Rns.app : ∀ {xs ys zs ws : List Val}, Rns k xs ys → Rns k zs ws → Rns k (xs ++ zs) (ys ++ ws)
  | _, _, _, _, .nil, s => s
  | _, _, _, _, .cons a r, s => .cons a (Rns.app r s)
theorem Rns.get : ∀ {xs ys : List Val} (i : Nat), Rns k xs ys → Ro (Rn k) xs[i]? ys[i]?
  | _, _, _, .nil => trivial
  | _, _, 0, .cons a _ => ⟨_, rfl, a⟩
  | _, _, i + 1, .cons _ r => by simpa using Rns.get i r
theorem Rns.getN : ∀ {xs ys : List Val} {i : Nat}, Rns k xs ys → xs[i]? = none → ys[i]? = none := fun {xs ys i} r e => by
  rw [List.getElem?_eq_none_iff] at e ⊢
  rw [← r.len]
  exact e
theorem Rns.take : ∀ {xs ys : List Val} (n : Nat), Rns k xs ys → Rns k (xs.take n) (ys.take n)
  | _, _, 0, _ => .nil
  | _, _, _ + 1, .nil => .nil
  | _, _, n + 1, .cons a r => .cons a (Rns.take n r)
theorem Rns.drop : ∀ {xs ys : List Val} (n : Nat), Rns k xs ys → Rns k (xs.drop n) (ys.drop n)
  | _, _, 0, r => r
  | _, _, _ + 1, .nil => .nil
  | _, _, n + 1, .cons _ r => Rns.drop n r
theorem Rns.set {x y : Val} (r : Rn k x y) : ∀ {v w : List Val} (i : Nat), Rns k v w → Rns k (v.set i x) (w.set i y)
  | _, _, _, .nil => .nil
  | _, _, 0, .cons _ t => .cons r t
  | _, _, i + 1, .cons a t => .cons a (Rns.set r i t)
theorem Rns.erase : ∀ {v w : List Val} (i : Nat), Rns k v w → Rns k (v.eraseIdx i) (w.eraseIdx i)
  | _, _, _, .nil => .nil
  | _, _, 0, .cons _ t => t
  | _, _, i + 1, .cons a t => .cons a (Rns.erase i t)
theorem Rns.rep {xs ys : List Val} (r : Rns k xs ys) : ∀ n : Nat, Rns k (List.replicate n xs).flatten (List.replicate n ys).flatten
  | 0 => .nil
  | n + 1 => by
    rw [List.replicate_succ, List.replicate_succ, List.flatten_cons, List.flatten_cons]
    exact r.app (r.rep n)
theorem Rns.cut {xs ys : List Val} (r : Rns k xs ys) (lo hi : Option Int) : Rns k (Mi.cut xs lo hi) (Mi.cut ys lo hi) := by
  unfold Mi.cut
  rw [← r.len]
  exact (r.drop _).take _
theorem Rh.len : ∀ {h h' : LH}, Rh k h h' → h.length = h'.length
  | _, _, .nil => rfl
  | _, _, .cons _ r => by simp [Rh.len r]
theorem Rh.get : ∀ {h h' : LH} {i : Nat} {o : Ob}, Rh k h h' → h[i]? = some o → ∃ o', h'[i]? = some o' ∧ Rob k o o'
  | _, _, _, _, .nil, e => by simp at e
  | _, _, 0, _, .cons a _, e => by simp at e; subst e; exact ⟨_, rfl, a⟩
  | _, _, i + 1, o, .cons _ r, e => by
    obtain ⟨o', h1, h2⟩ := Rh.get (i := i) (o := o) r (by simpa using e)
    exact ⟨o', by simpa using h1, h2⟩
theorem Rh.app : ∀ {h h' : LH} {o o' : Ob}, Rh k h h' → Rob k o o' → Rh k (h ++ [o]) (h' ++ [o'])
  | _, _, _, _, .nil, s => .cons s .nil
  | _, _, _, _, .cons a r, s => .cons a (Rh.app r s)
theorem Rh.set {o o' : Ob} (s : Rob k o o') : ∀ {h h' : LH} (i : Nat), Rh k h h' → Rh k (h.set i o) (h'.set i o')
  | _, _, _, .nil => .nil
  | _, _, 0, .cons _ t => .cons s t
  | _, _, i + 1, .cons a t => .cons a (Rh.set s i t)
end
section
variable {h0 h h' : LH}
theorem at_sh (r : Rh h0.length h h') {n : Nat} {o : Ob} (e : h[n]? = some o) : ∃ o', (h0 ++ h')[n + h0.length]? = some o' ∧ Rob h0.length o o' := by
  obtain ⟨o', h1, h2⟩ := r.get e
  refine ⟨o', ?_, h2⟩
  rw [List.getElem?_append_right (Nat.le_add_left _ _)]
  simpa using h1
theorem set_sh (n : Nat) (o : Ob) : (h0 ++ h').set (n + h0.length) o = h0 ++ h'.set n o := by
  rw [List.set_append_right _ _ (Nat.le_add_left _ _)]
  simp
theorem new_sh {o o' : Ob} (r : Rh h0.length h h') (s : Rob h0.length o o') : Rr h0 (Rn h0.length) (.ok (.loc h.length) (h ++ [o])) (.ok (.loc (h0 ++ h').length) ((h0 ++ h') ++ [o'])) := by
  refine ⟨.loc (h0 ++ h').length, h' ++ [o'], by rw [List.append_assoc], ?_, r.app s⟩
  have e : (h0 ++ h').length = h.length + h0.length := by rw [List.length_append, r.len, Nat.add_comm]
  rw [e]
  exact .loc _
theorem newL_sh {xs ys : List Val} (r : Rh h0.length h h') (s : Rns h0.length xs ys) : Rr h0 (Rn h0.length) (newL xs h) (newL ys (h0 ++ h')) := new_sh r (.lst s)
theorem ok_sh {v w : Val} (r : Rh h0.length h h') (s : Rn h0.length v w) : Rr h0 (Rn h0.length) (.ok v h) (.ok w (h0 ++ h')) := ⟨w, h', rfl, s, r⟩
theorem chk_sh {b b' : Bool} {x y : Res Val} (hb : b = true → b' = true) (s : Rr h0 (Rn h0.length) x y) : Rr h0 (Rn h0.length) (chk b x) (chk b' y) := by
  cases b with
  | false => trivial
  | true => rw [hb rfl]; exact s
theorem Rr.bind {α β γ δ : Type} {R : α → β → Prop} {S : γ → δ → Prop} {x : Res α} {y : Res β} {f : α → LH → Res γ} {g : β → LH → Res δ} (s : Rr h0 R x y) (t : ∀ a b h h', R a b → Rh h0.length h h' → Rr h0 S (f a h) (g b (h0 ++ h'))) : Rr h0 S (x.bind f) (y.bind g) := by
  cases x with
  | bad => trivial
  | ok a h =>
    obtain ⟨b, h', rfl, r1, r2⟩ := s
    exact t a b h h' r1 r2
  | exc c v h =>
    obtain ⟨v', h', rfl, r1, r2⟩ := s
    exact ⟨v', h', rfl, r1, r2⟩
/-! ### the operations -/
theorem sh_add {v v' w w' : Val} (r : Rh h0.length h h') (a : Rn h0.length v v') (b : Rn h0.length w w') : Rr h0 (Rn h0.length) (vAdd v w h) (vAdd v' w' (h0 ++ h')) := by
  unfold vAdd
  split
  · cases a; cases b; exact ok_sh r (.int _)
  · cases a; cases b; exact chk_sh id (ok_sh r (.str _))
  · cases a with
    | tup a => cases b with
      | tup b => exact chk_sh (by rw [a.len, b.len]; exact id) (ok_sh r (.tup (a.app b)))
  · cases a; cases b
    split
    · rename_i e1 e2
      obtain ⟨o1, q1, s1⟩ := at_sh r e1
      obtain ⟨o2, q2, s2⟩ := at_sh r e2
      cases s1 with
      | lst s1 => cases s2 with
        | lst s2 =>
          simp only [q1, q2]
          exact chk_sh (by rw [s1.len, s2.len]; exact id) (newL_sh r (s1.app s2))
    · trivial
  · trivial
theorem sh_sub {v v' w w' : Val} (r : Rh h0.length h h') (a : Rn h0.length v v') (b : Rn h0.length w w') : Rr h0 (Rn h0.length) (vSub v w h) (vSub v' w' (h0 ++ h')) := by
  unfold vSub
  split
  · cases a; cases b; exact ok_sh r (.int _)
  · trivial
theorem sh_mul {v v' w w' : Val} (r : Rh h0.length h h') (a : Rn h0.length v v') (b : Rn h0.length w w') : Rr h0 (Rn h0.length) (vMul v w h) (vMul v' w' (h0 ++ h')) := by
  unfold vMul
  split
  · cases a; cases b; exact chk_sh id (ok_sh r (.int _))
  · cases a; cases b
    split
    · rename_i e1
      obtain ⟨o1, q1, s1⟩ := at_sh r e1
      cases s1 with
      | lst s1 =>
        simp only [q1]
        exact chk_sh (by rw [s1.len]; exact id) (newL_sh r (s1.rep _))
    · trivial
  · trivial
theorem sh_div {v v' w w' : Val} (r : Rh h0.length h h') (a : Rn h0.length v v') (b : Rn h0.length w w') : Rr h0 (Rn h0.length) (vDiv v w h) (vDiv v' w' (h0 ++ h')) := by
  unfold vDiv
  split
  · cases a; cases b; exact chk_sh id (ok_sh r (.int _))
  · trivial
theorem sh_mod {v v' w w' : Val} (r : Rh h0.length h h') (a : Rn h0.length v v') (b : Rn h0.length w w') : Rr h0 (Rn h0.length) (vMod v w h) (vMod v' w' (h0 ++ h')) := by
  unfold vMod
  split
  · cases a; cases b; exact chk_sh id (ok_sh r (.int _))
  · trivial
theorem sh_pow {v v' w w' : Val} (r : Rh h0.length h h') (a : Rn h0.length v v') (b : Rn h0.length w w') : Rr h0 (Rn h0.length) (vPow v w h) (vPow v' w' (h0 ++ h')) := by
  unfold vPow
  split
  · cases a; cases b; exact chk_sh id (ok_sh r (.int _))
  · trivial
theorem sh_neg {v v' : Val} (r : Rh h0.length h h') (a : Rn h0.length v v') : Rr h0 (Rn h0.length) (vNeg v h) (vNeg v' (h0 ++ h')) := by
  unfold vNeg
  split
  · cases a; exact ok_sh r (.int _)
  · trivial
theorem mapO_sh {f f' : Val → Option PyData} (hf : ∀ v v' d, Rn h0.length v v' → f v = some d → f' v' = some d) : ∀ {vs vs' : List Val} {ds : List PyData}, Rns h0.length vs vs' → mapO f vs = some ds → mapO f' vs' = some ds
  | _, _, _, .nil, e => e
  | v :: vs, v' :: vs', ds, .cons r t, e => by
    unfold mapO at e ⊢
    split at e
    · rename_i d ds' e1 e2
      rw [hf v v' d r e1, mapO_sh hf t e2]
      exact e
    · cases e
theorem toD_sh (r : Rh h0.length h h') : ∀ (n : Nat) {v v' : Val} {d : PyData}, Rn h0.length v v' → toD n h v = some d → toD n (h0 ++ h') v' = some d
  | 0, _, _, _, _, e => by cases e
  | n + 1, v, v', d, a, e => by
    have ih : ∀ v v' d, Rn h0.length v v' → toD n h v = some d → toD n (h0 ++ h') v' = some d := fun _ _ _ => toD_sh r n
    cases a with
    | opq => cases e
    | non => exact e
    | bl b => exact e
    | int i => exact e
    | str x => exact e
    | err _ => cases e
    | tup a =>
      obtain ⟨ds, e1, e2⟩ := Option.map_eq_some_iff.mp (show (mapO (toD n h) _).map PyData.tuple = some d from e)
      show (mapO (toD n (h0 ++ h')) _).map PyData.tuple = some d
      rw [mapO_sh ih a e1]; exact congrArg some e2
    | ct a =>
      obtain ⟨ds, e1, e2⟩ := Option.map_eq_some_iff.mp (show (mapO (toD n h) _).map PyData.tuple = some d from e)
      show (mapO (toD n (h0 ++ h')) _).map PyData.tuple = some d
      rw [mapO_sh ih a e1]; exact congrArg some e2
    | cl a =>
      obtain ⟨ds, e1, e2⟩ := Option.map_eq_some_iff.mp (show (mapO (toD n h) _).map PyData.list = some d from e)
      show (mapO (toD n (h0 ++ h')) _).map PyData.list = some d
      rw [mapO_sh ih a e1]; exact congrArg some e2
    | loc m =>
      have e' : (match h[m]? with
        | some (.lst xs) => (mapO (toD n h) xs).map PyData.list
        | _ => none) = some d := e
      split at e'
      · rename_i em
        obtain ⟨o, q, s⟩ := at_sh r em
        cases s with
        | lst s =>
          obtain ⟨ds, e1, e2⟩ := Option.map_eq_some_iff.mp e'
          show (match (h0 ++ h')[m + h0.length]? with
            | some (.lst xs) => (mapO (toD n (h0 ++ h')) xs).map PyData.list
            | _ => none) = some d
          rw [q]
          show (mapO (toD n (h0 ++ h')) _).map PyData.list = some d
          rw [mapO_sh ih s e1]; exact congrArg some e2
      · cases e'
end
end Mi

set_option Elab.async false
set_option linter.all false
set_option maxRecDepth 100000
set_option maxHeartbeats 1000000
/-! N2: .. further operations. -/
namespace Mi
open PySem L2
section
variable {h0 h h' : LH}
theorem ofB_sh {o o' : Option Bool} (r : Rh h0.length h h') (e : ∀ b, o = some b → o' = some b) : Rr h0 (Rn h0.length) (ofB o h) (ofB o' (h0 ++ h')) := by
  cases o with
  | none => trivial
  | some b => rw [e b rfl]; exact ok_sh r (.bl b)
theorem scl_sh {v v' w w' : Val} (a : Rn h0.length v v') (b : Rn h0.length w w') {c : Bool} (e : scl v w = some c) : scl v' w' = some c := by
  cases a <;> cases b <;> first | exact e | cases e
theorem scl_none {v v' w w' : Val} (a : Rn h0.length v v') (b : Rn h0.length w w') (hk : kn v = true) (hk2 : kn w = true) (e : scl v w = none) : scl v' w' = none := by
  cases a <;> cases b <;> first | exact e | rfl | (cases hk; done) | (cases hk2; done) | (cases e; done)
theorem toD_kn {n : Nat} {v : Val} {d : PyData} (e : toD n h v = some d) : kn v = true := by
  cases n with
  | zero => cases e
  | succ n => cases v <;> first | rfl | cases e
theorem eqB_sh (r : Rh h0.length h h') {v v' w w' : Val} (a : Rn h0.length v v') (b : Rn h0.length w w') {c : Bool} (e : eqB v w h = some c) : eqB v' w' (h0 ++ h') = some c := by
  unfold eqB at e ⊢
  split at e
  · rename_i es
    rw [scl_sh a b es]
    exact e
  · rename_i es
    split at e
    · rename_i d f e1 e2
      rw [scl_none a b (toD_kn e1) (toD_kn e2) es]
      simp only [toD_sh r 40 a e1, toD_sh r 40 b e2]
      exact e
    · cases e
theorem sh_eq {v v' w w' : Val} (r : Rh h0.length h h') (a : Rn h0.length v v') (b : Rn h0.length w w') : Rr h0 (Rn h0.length) (vEq v w h) (vEq v' w' (h0 ++ h')) := ofB_sh r fun c e => eqB_sh r a b e
theorem sh_ne {v v' w w' : Val} (r : Rh h0.length h h') (a : Rn h0.length v v') (b : Rn h0.length w w') : Rr h0 (Rn h0.length) (vNe v w h) (vNe v' w' (h0 ++ h')) := ofB_sh r fun c e => by
  obtain ⟨x, e1, e2⟩ := Option.map_eq_some_iff.mp e
  rw [eqB_sh r a b e1]
  exact congrArg some e2
theorem sh_lt {v v' w w' : Val} (r : Rh h0.length h h') (a : Rn h0.length v v') (b : Rn h0.length w w') : Rr h0 (Rn h0.length) (vLt v w h) (vLt v' w' (h0 ++ h')) := by
  unfold vLt
  split <;> first | trivial | (cases a; cases b; exact ok_sh r (.bl _))
theorem sh_le {v v' w w' : Val} (r : Rh h0.length h h') (a : Rn h0.length v v') (b : Rn h0.length w w') : Rr h0 (Rn h0.length) (vLe v w h) (vLe v' w' (h0 ++ h')) := by
  unfold vLe
  split <;> first | trivial | (cases a; cases b; exact ok_sh r (.bl _))
theorem sh_gt {v v' w w' : Val} (r : Rh h0.length h h') (a : Rn h0.length v v') (b : Rn h0.length w w') : Rr h0 (Rn h0.length) (vGt v w h) (vGt v' w' (h0 ++ h')) := by
  unfold vGt
  split <;> first | trivial | (cases a; cases b; exact ok_sh r (.bl _))
theorem sh_ge {v v' w w' : Val} (r : Rh h0.length h h') (a : Rn h0.length v v') (b : Rn h0.length w w') : Rr h0 (Rn h0.length) (vGe v w h) (vGe v' w' (h0 ++ h')) := by
  unfold vGe
  split <;> first | trivial | (cases a; cases b; exact ok_sh r (.bl _))
theorem sh_is {v v' w w' : Val} (r : Rh h0.length h h') (a : Rn h0.length v v') (b : Rn h0.length w w') : Rr h0 (Rn h0.length) (vIs v w h) (vIs v' w' (h0 ++ h')) := by
  unfold vIs
  split
  · cases b
    cases a with
    | opq => trivial
    | _ => exact ok_sh r (.bl _)
  · cases b
    split
    · cases a; exact ok_sh r (.bl _)
    · trivial
  · trivial
theorem sh_isn {v v' w w' : Val} (r : Rh h0.length h h') (a : Rn h0.length v v') (b : Rn h0.length w w') : Rr h0 (Rn h0.length) (vIsn v w h) (vIsn v' w' (h0 ++ h')) := by
  unfold vIsn
  split
  · cases b
    cases a with
    | opq => trivial
    | _ => exact ok_sh r (.bl _)
  · cases b
    split
    · cases a; exact ok_sh r (.bl _)
    · trivial
  · trivial
theorem keyOf_sh {v v' : Val} (a : Rn h0.length v v') {c : Key} (e : keyOf v = some c) : keyOf v' = some c := by
  cases a <;> first | exact e | cases e
theorem keysOf_sh : ∀ {vs vs' : List Val} {c : List Key}, Rns h0.length vs vs' → keysOf vs = some c → keysOf vs' = some c
  | _, _, _, .nil, e => e
  | v :: vs, v' :: vs', c, .cons a t, e => by
    unfold keysOf at e ⊢
    split at e
    · rename_i k ks e1 e2
      rw [keyOf_sh a e1, keysOf_sh t e2]
      exact e
    · cases e
theorem look_sh {t : Type} [DecidableEq t] : ∀ {xs ys : List (t × Val)} (c : t), Rkv h0.length xs ys → (look xs c = none ∧ look ys c = none) ∨ ∃ v w, look xs c = some v ∧ look ys c = some w ∧ Rn h0.length v w
  | _, _, _, .nil => .inl ⟨rfl, rfl⟩
  | (a, x) :: xs, (_, y) :: ys, c, .cons r t => by
    unfold look
    rw [List.find?_cons, List.find?_cons]
    by_cases hc : a = c
    · simp only [hc, decide_true, Option.map_some]
      exact .inr ⟨x, y, rfl, rfl, r⟩
    · simp only [hc, decide_false]
      exact look_sh c t
theorem dGet_sh {o o' : Ob} (s : Rob h0.length o o') {v v' : Val} (a : Rn h0.length v v') {g : Option Val} (e : dGet o v = some g) : ∃ g', dGet o' v' = some g' ∧ ((g = none ∧ g' = none) ∨ ∃ x y, g = some x ∧ g' = some y ∧ Rn h0.length x y) := by
  cases s with
  | lst _ => cases e
  | ins _ => cases e
  | dK s =>
    obtain ⟨c, e1, e2⟩ := Option.map_eq_some_iff.mp (show (keyOf v).map (look _) = some g from e)
    refine ⟨_, (by show (keyOf v').map (look _) = _; rw [keyOf_sh a e1]; rfl), ?_⟩
    rw [← e2]
    exact look_sh c s
  | dT s =>
    cases a with
    | tup a =>
      obtain ⟨c, e1, e2⟩ := Option.map_eq_some_iff.mp (show (keysOf _).map (look _) = some g from e)
      refine ⟨_, (by show (keysOf _).map (look _) = _; rw [keysOf_sh a e1]; rfl), ?_⟩
      rw [← e2]
      exact look_sh c s
    | _ => cases e
theorem inS_sh (r : Rh h0.length h h') {v v' w w' : Val} (a : Rn h0.length v v') (b : Rn h0.length w w') {c : Bool} (e : inS v w h = some c) : inS v' w' (h0 ++ h') = some c := by
  unfold inS at e ⊢
  split at e
  · rename_i d e1
    rw [toD_sh r 40 a e1]
    cases e2 : toD 40 h w with
    | none => rw [e2] at e; cases e
    | some f =>
      rw [e2] at e
      simp only [toD_sh r 40 b e2]
      exact e
  · cases e
theorem inB_sh (r : Rh h0.length h h') {v v' w w' : Val} (a : Rn h0.length v v') (b : Rn h0.length w w') {c : Bool} (e : inB v w h = some c) : inB v' w' (h0 ++ h') = some c := by
  have plain : inS v w h = some c → inS v' w' (h0 ++ h') = some c := inS_sh r a b
  cases b with
  | str x =>
    cases a with
    | str y => exact e
    | _ => cases e
  | loc m =>
    have e' : (match h[m]? with
      | some (.lst _) => inS v (.loc m) h
      | some o => (dGet o v).map (·.isSome)
      | none => none) = some c := e
    show (match (h0 ++ h')[m + h0.length]? with
      | some (.lst _) => inS v' (.loc (m + h0.length)) (h0 ++ h')
      | some o => (dGet o v').map (·.isSome)
      | none => none) = some c
    cases em : h[m]? with
    | none => rw [em] at e'; cases e'
    | some o =>
      obtain ⟨o', q, s⟩ := at_sh r em
      rw [em] at e'
      rw [q]
      have dd : ∀ {o o' : Ob}, Rob h0.length o o' → (dGet o v).map (·.isSome) = some c → (dGet o' v').map (·.isSome) = some c := by
        intro o o' s e
        obtain ⟨gg, e1, e2⟩ := Option.map_eq_some_iff.mp e
        obtain ⟨g', h1, h2⟩ := dGet_sh s a e1
        rw [h1]
        rcases h2 with ⟨rfl, rfl⟩ | ⟨x, y, rfl, rfl, _⟩
        · exact congrArg some e2
        · exact congrArg some e2
      cases s with
      | lst s => exact plain e'
      | dK s => exact dd (.dK s) e'
      | dT s => exact dd (.dT s) e'
      | @ins c _ _ s => exact dd (.ins (c := c) s) e'
  | opq => exact absurd (show inS v .opq h = some c from e) (by
      intro z
      unfold inS at z
      split at z
      · cases z
      · cases z)
  | _ => exact plain e
theorem sh_in {v v' w w' : Val} (r : Rh h0.length h h') (a : Rn h0.length v v') (b : Rn h0.length w w') : Rr h0 (Rn h0.length) (vIn v w h) (vIn v' w' (h0 ++ h')) := ofB_sh r fun c e => inB_sh r a b e
theorem sh_nin {v v' w w' : Val} (r : Rh h0.length h h') (a : Rn h0.length v v') (b : Rn h0.length w w') : Rr h0 (Rn h0.length) (vNin v w h) (vNin v' w' (h0 ++ h')) := ofB_sh r fun c e => by
  obtain ⟨x, e1, e2⟩ := Option.map_eq_some_iff.mp e
  rw [inB_sh r a b e1]
  exact congrArg some e2
theorem sh_bin (op : Operator) {v v' w w' : Val} (r : Rh h0.length h h') (a : Rn h0.length v v') (b : Rn h0.length w w') : Rr h0 (Rn h0.length) (vBin op v w h) (vBin op v' w' (h0 ++ h')) := by
  cases op with
  | Add => exact sh_add r a b
  | Sub => exact sh_sub r a b
  | Mult => exact sh_mul r a b
  | FloorDiv => exact sh_div r a b
  | Mod => exact sh_mod r a b
  | Pow => exact sh_pow r a b
  | _ => trivial
theorem sh_cmp (op : CmpOp) {v v' w w' : Val} (r : Rh h0.length h h') (a : Rn h0.length v v') (b : Rn h0.length w w') : Rr h0 (Rn h0.length) (vCmp op v w h) (vCmp op v' w' (h0 ++ h')) := by
  cases op with
  | Eq => exact sh_eq r a b
  | NotEq => exact sh_ne r a b
  | Lt => exact sh_lt r a b
  | LtE => exact sh_le r a b
  | Gt => exact sh_gt r a b
  | GtE => exact sh_ge r a b
  | Is => exact sh_is r a b
  | IsNot => exact sh_isn r a b
  | In => exact sh_in r a b
  | NotIn => exact sh_nin r a b
/-! ### sequences -/
theorem seqL_sh (r : Rh h0.length h h') {v v' : Val} (a : Rn h0.length v v') : Ro (Rns h0.length) (seqL v h) (seqL v' (h0 ++ h')) := by
  cases a with
  | cl a => exact ⟨_, rfl, a⟩
  | loc m =>
    show Ro _ (match h[m]? with
      | some (.lst xs) => some xs
      | _ => none) (match (h0 ++ h')[m + h0.length]? with
      | some (.lst xs) => some xs
      | _ => none)
    split
    · rename_i em
      obtain ⟨o, q, s⟩ := at_sh r em
      cases s with
      | lst s => rw [q]; exact ⟨_, rfl, s⟩
    · trivial
  | _ => trivial
theorem seqT_sh {v v' : Val} (a : Rn h0.length v v') : Ro (Rns h0.length) (seqT v) (seqT v') := by
  cases a with
  | tup a => exact ⟨_, rfl, a⟩
  | ct a => exact ⟨_, rfl, a⟩
  | _ => trivial
theorem seqL_kn {v : Val} {xs : List Val} (e : seqT v = some xs) : seqL v h = none := by cases v <;> first | rfl | cases e
theorem seqL_off {v v' : Val} {xs : List Val} (a : Rn h0.length v v') (e : seqT v = some xs) : seqL v' (h0 ++ h') = none := by
  cases a <;> first | rfl | cases e
theorem atI_sh {xs ys : List Val} (s : Rns h0.length xs ys) (i : Int) : Ro (Rn h0.length) (atI xs i) (atI ys i) := by
  unfold atI
  rw [← s.len]
  cases ixN xs.length i with
  | none => trivial
  | some j => exact s.get j
theorem ofO_sh {o o' : Option Val} (r : Rh h0.length h h') (s : Ro (Rn h0.length) o o') : Rr h0 (Rn h0.length) (ofO o h) (ofO o' (h0 ++ h')) := by
  cases o with
  | none => trivial
  | some v => obtain ⟨w, rfl, q⟩ := s; exact ok_sh r q
theorem sh_ix {v v' w w' : Val} (r : Rh h0.length h h') (a : Rn h0.length v v') (b : Rn h0.length w w') : Rr h0 (Rn h0.length) (vIx v w h) (vIx v' w' (h0 ++ h')) := by
  have lst : ∀ {xs ys : List Val}, Rns h0.length xs ys → Rr h0 (Rn h0.length) (vIx (.cl xs) w h) (vIx (.cl ys) w' (h0 ++ h')) := by
    intro xs ys s
    cases b with
    | int i => exact ofO_sh r (atI_sh s i)
    | _ => trivial
  cases a with
  | str z =>
    cases b with
    | int i => 
      refine chk_sh id (ofO_sh r ?_)
      cases atI z.cps.toList i with
      | none => trivial
      | some c => exact ⟨_, rfl, .str _⟩
    | _ => trivial
  | cl s => exact lst s
  | tup s => exact lst s
  | ct s => exact lst s
  | loc m =>
    show Rr h0 _ (match h[m]? with
      | some (.lst xs) => (match w with
        | .int i => ofO (atI xs i) h
        | _ => .bad)
      | some o => (match dGet o w with
        | some (some u) => .ok u h
        | _ => .bad)
      | none => .bad) (match (h0 ++ h')[m + h0.length]? with
      | some (.lst xs) => (match w' with
        | .int i => ofO (atI xs i) (h0 ++ h')
        | _ => .bad)
      | some o => (match dGet o w' with
        | some (some u) => .ok u (h0 ++ h')
        | _ => .bad)
      | none => .bad)
    cases em : h[m]? with
    | none => trivial
    | some o =>
      obtain ⟨o', q, s⟩ := at_sh r em
      rw [q]
      have dd : ∀ {o o' : Ob}, Rob h0.length o o' → Rr h0 (Rn h0.length) (match dGet o w with
          | some (some u) => .ok u h
          | _ => .bad) (match dGet o' w' with
          | some (some u) => .ok u (h0 ++ h')
          | _ => .bad) := by
        intro o o' s
        cases e : dGet o w with
        | none => trivial
        | some gg =>
          obtain ⟨g', h1, h2⟩ := dGet_sh s b e
          rw [h1]
          rcases h2 with ⟨rfl, rfl⟩ | ⟨x, y, rfl, rfl, q⟩
          · trivial
          · exact ok_sh r q
      cases s with
      | lst s => exact lst s
      | dK s => exact dd (.dK s)
      | dT s => exact dd (.dT s)
      | @ins c _ _ s => exact dd (.ins (c := c) s)
  | _ => trivial
theorem sh_sl {v v' : Val} (lo hi : Option Int) (r : Rh h0.length h h') (a : Rn h0.length v v') : Rr h0 (Rn h0.length) (vSl v lo hi h) (vSl v' lo hi (h0 ++ h')) := by
  cases a with
  | str z => exact chk_sh id (ok_sh r (.str _))
  | tup s => exact ok_sh r (.tup (s.cut _ _))
  | cl s => exact newL_sh r (s.cut _ _)
  | loc m =>
    show Rr h0 _ (match h[m]? with
      | some (.lst xs) => newL (cut xs lo hi) h
      | _ => .bad) (match (h0 ++ h')[m + h0.length]? with
      | some (.lst xs) => newL (cut xs lo hi) (h0 ++ h')
      | _ => .bad)
    split
    · rename_i em
      obtain ⟨o, q, s⟩ := at_sh r em
      cases s with
      | lst s => rw [q]; exact newL_sh r (s.cut _ _)
    · trivial
  | _ => trivial
theorem lenO_sh (r : Rh h0.length h h') {v v' : Val} (a : Rn h0.length v v') {n : Nat} (e : lenO v h = some n) : lenO v' (h0 ++ h') = some n := by
  cases a with
  | str z => exact e
  | tup s => rw [← e]; exact congrArg some s.len.symm
  | ct s => rw [← e]; exact congrArg some s.len.symm
  | cl s => rw [← e]; exact congrArg some s.len.symm
  | loc m =>
    have e' : (match h[m]? with
      | some (.lst xs) => some xs.length
      | _ => none) = some n := e
    show (match (h0 ++ h')[m + h0.length]? with
      | some (.lst xs) => some xs.length
      | _ => none) = some n
    split at e'
    · rename_i em
      obtain ⟨o, q, s⟩ := at_sh r em
      cases s with
      | lst s => rw [q, ← e']; exact congrArg some s.len.symm
    · cases e'
  | _ => cases e
theorem emp_sh {xs ys : List Val} (s : Rns h0.length xs ys) : xs.isEmpty = ys.isEmpty := by cases s <;> rfl
theorem emp_kv {t : Type} {xs ys : List (t × Val)} (s : Rkv h0.length xs ys) : xs.isEmpty = ys.isEmpty := by cases s <;> rfl
theorem truO_sh (r : Rh h0.length h h') {v v' : Val} (a : Rn h0.length v v') {n : Bool} (e : truO v h = some n) : truO v' (h0 ++ h') = some n := by
  cases a with
  | opq => cases e
  | non => exact e
  | bl _ => exact e
  | int _ => exact e
  | str _ => exact e
  | err _ => cases e
  | tup s => rw [← e]; exact congrArg (fun b => some (!b)) (emp_sh s).symm
  | ct s => rw [← e]; exact congrArg (fun b => some (!b)) (emp_sh s).symm
  | cl s => rw [← e]; exact congrArg (fun b => some (!b)) (emp_sh s).symm
  | loc m =>
    have e' : (match h[m]? with
      | some (.lst xs) => some (!xs.isEmpty)
      | some (.dK xs) => some (!xs.isEmpty)
      | _ => none) = some n := e
    show (match (h0 ++ h')[m + h0.length]? with
      | some (.lst xs) => some (!xs.isEmpty)
      | some (.dK xs) => some (!xs.isEmpty)
      | _ => none) = some n
    split at e'
    · rename_i em
      obtain ⟨o, q, s⟩ := at_sh r em
      cases s with
      | lst s => rw [q, ← e']; exact congrArg (fun b => some (!b)) (emp_sh s).symm
    · rename_i em
      obtain ⟨o, q, s⟩ := at_sh r em
      cases s with
      | dK s => rw [q, ← e']; exact congrArg (fun b => some (!b)) (emp_kv s).symm
    · cases e'
end
end Mi

set_option Elab.async false
set_option linter.all false
set_option maxRecDepth 100000
set_option maxHeartbeats 1000000
/-! N3: .. built-ins, methods, stores, sources, targets. -/
namespace Mi
open PySem L2
mutual
theorem rn_self {k : Nat} : ∀ {v : Val}, noLoc v = true → Rn k v v
  | .non, _ => .non
  | .bl b, _ => .bl b
  | .int i, _ => .int i
  | .str x, _ => .str x
  | .tup xs, e => .tup (rns_self (v := xs) e)
  | .ct xs, e => .ct (rns_self (v := xs) e)
  | .cl xs, e => .cl (rns_self (v := xs) e)
  | .err c v, e => .err (rn_self (v := v) e)
  | .loc _, e => nomatch (show false = true from e)
  | .opq, e => nomatch (show false = true from e)
theorem rns_self {k : Nat} : ∀ {v : List Val}, noLocs v = true → Rns k v v
  | [], _ => .nil
  | v :: vs, e => by
    obtain ⟨h1, h2⟩ := Bool.and_eq_true_iff.mp (show (noLoc v && noLocs vs) = true from e)
    exact .cons (rn_self h1) (rns_self h2)
end
section
variable {h0 h h' : LH}
theorem bls_sh : ∀ {xs ys : List Val} {bs : List Bool}, Rns h0.length xs ys → blsOf xs = some bs → blsOf ys = some bs
  | _, _, _, .nil, e => e
  | x :: xs, y :: ys, bs, .cons a t, e => by
    cases a with
    | bl b =>
      obtain ⟨cs, e1, e2⟩ := Option.map_eq_some_iff.mp (show (blsOf xs).map (b :: ·) = some bs from e)
      show (blsOf ys).map (b :: ·) = some bs
      rw [bls_sh t e1]
      exact congrArg some e2
    | _ => cases e
theorem one_of {vs vs' : List Val} (s : Rns h0.length vs vs') {v : Val} (e : vs = [v]) : ∃ v', vs' = [v'] ∧ Rn h0.length v v' := by
  subst e
  cases s with
  | cons a t => cases t; exact ⟨_, rfl, a⟩
theorem sh_bi (b : Bi) {vs vs' : List Val} (r : Rh h0.length h h') (s : Rns h0.length vs vs') : Rr h0 (Rn h0.length) (vBi b vs h) (vBi b vs' (h0 ++ h')) := by
  cases s with
  | nil => cases b <;> trivial
  | @cons v v' vs vs' a t =>
    cases t with
    | nil =>
      cases b with
      | len =>
        refine ofO_sh r ?_
        cases e : lenO v h with
        | none => trivial
        | some n => exact ⟨_, by rw [lenO_sh r a e]; rfl, .int _⟩
      | abs => cases a <;> first | trivial | exact ok_sh r (.int _)
      | int => cases a <;> first | trivial | exact ok_sh r (.int _)
      | min2 => cases a <;> trivial
      | max2 => cases a <;> trivial
      | all =>
        show Rr h0 (Rn h0.length) (match (seqL v h).bind blsOf with
          | some bs => .ok (Val.bl (bs.all id)) h
          | none => .bad) (match (seqL v' (h0 ++ h')).bind blsOf with
          | some bs => .ok (Val.bl (bs.all id)) (h0 ++ h')
          | none => .bad)
        have q := seqL_sh r a
        cases e : seqL v h with
        | none => trivial
        | some xs =>
          rw [e] at q
          obtain ⟨ys, e2, t⟩ := q
          rw [e2]
          show Rr h0 (Rn h0.length) (match blsOf xs with
            | some bs => .ok (Val.bl (bs.all id)) h
            | none => .bad) (match blsOf ys with
            | some bs => .ok (Val.bl (bs.all id)) (h0 ++ h')
            | none => .bad)
          cases e3 : blsOf xs with
          | none => trivial
          | some bs => rw [bls_sh t e3]; exact ok_sh r (.bl _)
      | any =>
        show Rr h0 (Rn h0.length) (match (seqL v h).bind blsOf with
          | some bs => .ok (Val.bl (bs.any id)) h
          | none => .bad) (match (seqL v' (h0 ++ h')).bind blsOf with
          | some bs => .ok (Val.bl (bs.any id)) (h0 ++ h')
          | none => .bad)
        have q := seqL_sh r a
        cases e : seqL v h with
        | none => trivial
        | some xs =>
          rw [e] at q
          obtain ⟨ys, e2, t⟩ := q
          rw [e2]
          show Rr h0 (Rn h0.length) (match blsOf xs with
            | some bs => .ok (Val.bl (bs.any id)) h
            | none => .bad) (match blsOf ys with
            | some bs => .ok (Val.bl (bs.any id)) (h0 ++ h')
            | none => .bad)
          cases e3 : blsOf xs with
          | none => trivial
          | some bs => rw [bls_sh t e3]; exact ok_sh r (.bl _)
      | list =>
        show Rr h0 (Rn h0.length) (match seqL v h with
          | some xs => newL xs h
          | none => match seqT v with
            | some xs => newL xs h
            | none => .bad) (match seqL v' (h0 ++ h') with
          | some xs => newL xs (h0 ++ h')
          | none => match seqT v' with
            | some xs => newL xs (h0 ++ h')
            | none => .bad)
        have q := seqL_sh r a
        have q2 := seqT_sh a
        cases e : seqL v h with
        | some xs =>
          rw [e] at q
          obtain ⟨ys, e2, t⟩ := q
          rw [e2]
          exact newL_sh r t
        | none =>
          cases e3 : seqT v with
          | none => trivial
          | some xs =>
            rw [e3] at q2
            obtain ⟨ys, e2, t⟩ := q2
            rw [seqL_off a e3, e2]
            exact newL_sh r t
      | tuple =>
        cases a with
        | cl t => exact ok_sh r (.tup t)
        | tup t => exact ok_sh r (.tup t)
        | loc m =>
          have q := seqL_sh r (.loc (k := h0.length) m)
          show Rr h0 (Rn h0.length) (match seqL (.loc m) h with
            | some xs => .ok (Val.tup xs) h
            | none => .bad) (match seqL (.loc (m + h0.length)) (h0 ++ h') with
            | some xs => .ok (Val.tup xs) (h0 ++ h')
            | none => .bad)
          cases e : seqL (.loc m) h with
          | none => trivial
          | some xs =>
            rw [e] at q
            obtain ⟨ys, e2, t⟩ := q
            rw [e2]
            exact ok_sh r (.tup t)
        | _ => trivial
    | @cons w w' vs vs' a2 t2 =>
      cases t2 with
      | nil =>
        cases b with
        | min2 => cases a <;> first | trivial | (cases a2 <;> first | trivial | exact ok_sh r (.int _))
        | max2 => cases a <;> first | trivial | (cases a2 <;> first | trivial | exact ok_sh r (.int _))
        | abs => cases a <;> trivial
        | int => cases a <;> trivial
        | _ => trivial
      | cons a3 t3 =>
        cases b with
        | min2 => cases a <;> first | trivial | (cases a2 <;> trivial)
        | max2 => cases a <;> first | trivial | (cases a2 <;> trivial)
        | abs => cases a <;> trivial
        | int => cases a <;> trivial
        | _ => trivial
theorem okTy_sh (m : Mt) (r : Rh h0.length h h') {v v' : Val} (a : Rn h0.length v v') (e : okTy m v h = true) : okTy m v' (h0 ++ h') = true := by
  have q := seqL_sh r a
  have e' : (seqL v h).isSome = true := by cases m <;> exact e
  obtain ⟨xs, e1⟩ := Option.isSome_iff_exists.mp e'
  rw [e1] at q
  obtain ⟨ys, e2, _⟩ := q
  have : (seqL v' (h0 ++ h')).isSome = true := by rw [e2]; rfl
  cases m <;> exact this
theorem sh_mt (m : Mt) {v v' : Val} {vs vs' : List Val} (r : Rh h0.length h h') (a : Rn h0.length v v') (s : Rns h0.length vs vs') : Rr h0 (Rn h0.length) (vMt m v vs h) (vMt m v' vs' (h0 ++ h')) := by
  cases a with
  | loc n =>
    cases s with
    | nil => cases m <;> trivial
    | cons b t =>
      cases t with
      | cons b2 t2 => cases m <;> first | trivial | (cases b <;> trivial)
      | nil =>
        cases m with
        | append =>
          show Rr h0 (Rn h0.length) (match h[n]? with
            | some (.lst xs) => chk (decide (xs.length < sizeLine)) (.ok Val.non (h.set n (.lst (xs ++ [_]))))
            | _ => .bad) (match (h0 ++ h')[n + h0.length]? with
            | some (.lst xs) => chk (decide (xs.length < sizeLine)) (.ok Val.non ((h0 ++ h').set (n + h0.length) (.lst (xs ++ [_]))))
            | _ => .bad)
          split
          · rename_i em
            obtain ⟨o, q, s⟩ := at_sh r em
            cases s with
            | lst s =>
              rw [q]
              refine chk_sh (by rw [s.len]; exact id) ?_
              rw [set_sh]
              exact ⟨_, _, rfl, .non, r.set (.lst (s.app (.cons b .nil))) n⟩
          · trivial
        | extend =>
          cases b with
          | loc m2 =>
            show Rr h0 (Rn h0.length) (match h[n]?, h[m2]? with
              | some (.lst xs), some (.lst zs) => chk (decide (xs.length + zs.length ≤ sizeLine)) (.ok Val.non (h.set n (.lst (xs ++ zs))))
              | _, _ => .bad) (match (h0 ++ h')[n + h0.length]?, (h0 ++ h')[m2 + h0.length]? with
              | some (.lst xs), some (.lst zs) => chk (decide (xs.length + zs.length ≤ sizeLine)) (.ok Val.non ((h0 ++ h').set (n + h0.length) (.lst (xs ++ zs))))
              | _, _ => .bad)
            split
            · rename_i em em2
              obtain ⟨o, q, s⟩ := at_sh r em
              obtain ⟨o2, q2, s2⟩ := at_sh r em2
              cases s with
              | lst s =>
                cases s2 with
                | lst s2 =>
                  rw [q, q2]
                  refine chk_sh (by rw [s.len, s2.len]; exact id) ?_
                  rw [set_sh]
                  exact ⟨_, _, rfl, .non, r.set (.lst (s.app s2)) n⟩
            · trivial
          | _ => trivial
        | popAt =>
          cases b with
          | int i =>
            show Rr h0 (Rn h0.length) (match h[n]? with
              | some (.lst xs) => (match ixN xs.length i with
                | some k => (match xs[k]? with
                  | some y => .ok y (h.set n (.lst (xs.eraseIdx k)))
                  | none => .bad)
                | none => .bad)
              | _ => .bad) (match (h0 ++ h')[n + h0.length]? with
              | some (.lst xs) => (match ixN xs.length i with
                | some k => (match xs[k]? with
                  | some y => .ok y ((h0 ++ h').set (n + h0.length) (.lst (xs.eraseIdx k)))
                  | none => .bad)
                | none => .bad)
              | _ => .bad)
            split
            · rename_i em
              obtain ⟨o, q, s⟩ := at_sh r em
              cases s with
              | lst s =>
                rw [q]
                dsimp only
                rw [← s.len]
                split
                · rename_i k ek
                  have g := s.get k
                  split
                  · rename_i y ey
                    rw [ey] at g
                    obtain ⟨y', e2, gy⟩ := g
                    rw [e2, set_sh]
                    exact ⟨_, _, rfl, gy, r.set (.lst (s.erase k)) n⟩
                  · trivial
                · trivial
            · trivial
          | _ => trivial
  | _ => cases m <;> trivial
theorem put_sh {t : Type} [DecidableEq t] {v w : Val} (a : Rn h0.length v w) (c : t) {xs ys : List (t × Val)} (s : Rkv h0.length xs ys) : Rkv h0.length (put xs c v) (put ys c w) := by
  have any : ∀ {xs ys : List (t × Val)}, Rkv h0.length xs ys → (xs.any fun kv => decide (kv.1 = c)) = ys.any fun kv => decide (kv.1 = c) := by
    intro xs ys s
    induction s with
    | nil => rfl
    | cons _ _ ih => simp [ih]
  have mp : ∀ {xs ys : List (t × Val)}, Rkv h0.length xs ys → Rkv h0.length (xs.map fun kv => if kv.1 = c then (kv.1, v) else kv) (ys.map fun kv => if kv.1 = c then (kv.1, w) else kv) := by
    intro xs ys s
    induction s with
    | nil => exact .nil
    | @cons k x y _ _ b _ ih =>
      simp only [List.map_cons]
      by_cases hc : k = c
      · simp only [hc, if_true]; exact .cons a ih
      · simp only [hc, if_false]; exact .cons b ih
  have ap : ∀ {xs ys : List (t × Val)}, Rkv h0.length xs ys → Rkv h0.length (xs ++ [(c, v)]) (ys ++ [(c, w)]) := by
    intro xs ys s
    induction s with
    | nil => exact .cons a .nil
    | cons b _ ih => exact .cons b ih
  unfold put
  rw [any s]
  split
  · exact mp s
  · exact ap s
theorem kvlen {t : Type} {xs ys : List (t × Val)} (s : Rkv h0.length xs ys) : xs.length = ys.length := by
  induction s with
  | nil => rfl
  | cons _ _ ih => simp [ih]
theorem set_sh2 {o o' i i' v v' : Val} {h1 : LH} (r : Rh h0.length h h') (a : Rn h0.length o o') (b : Rn h0.length i i') (c : Rn h0.length v v') (e : vSet o i v h = some h1) : ∃ h1', vSet o' i' v' (h0 ++ h') = some (h0 ++ h1') ∧ Rh h0.length h1 h1' := by
  cases a with
  | loc n =>
    unfold vSet at e ⊢
    dsimp only at e ⊢
    split at e
    · rename_i em
      obtain ⟨ob, q, s⟩ := at_sh r em
      cases s with
      | lst s =>
        rw [q]
        cases b with
        | int k =>
          dsimp only at e ⊢
          obtain ⟨j, e1, e2⟩ := Option.map_eq_some_iff.mp e
          rw [← s.len, e1, ← e2]
          exact ⟨_, by rw [Option.map_some, set_sh], r.set (.lst (s.set c j)) n⟩
        | _ => cases e
    · rename_i em
      obtain ⟨ob, q, s⟩ := at_sh r em
      cases s with
      | dK s =>
        rw [q]
        dsimp only
        rw [← kvlen s]
        split at e
        · rename_i hl
          obtain ⟨k, e1, e2⟩ := Option.map_eq_some_iff.mp e
          rw [if_pos hl, keyOf_sh b e1, ← e2]
          exact ⟨_, by rw [Option.map_some, set_sh], r.set (.dK (put_sh c k s)) n⟩
        · cases e
    · rename_i em
      obtain ⟨ob, q, s⟩ := at_sh r em
      cases s with
      | dT s =>
        rw [q]
        cases b with
        | tup ks =>
          dsimp only at e ⊢
          rw [← kvlen s]
          split at e
          · rename_i hl
            obtain ⟨k, e1, e2⟩ := Option.map_eq_some_iff.mp e
            rw [if_pos hl, keysOf_sh ks e1, ← e2]
            exact ⟨_, by rw [Option.map_some, set_sh], r.set (.dT (put_sh c k s)) n⟩
          · cases e
        | _ => cases e
    · cases e
  | _ => cases e
end
end Mi

set_option Elab.async false
set_option linter.all false
set_option maxRecDepth 100000
set_option maxHeartbeats 2000000
/-! N4: .. the run itself. -/
namespace Mi
open PySem L2
section
variable {h0 h h' : LH}
theorem sh_fld (errs : List Str) {v v' : Val} (r : Rh h0.length h h') (a : Rn h0.length v v') : Rr h0 (Rn h0.length) (vFld errs v h) (vFld errs v' (h0 ++ h')) := by
  cases a with
  | err a => exact chk_sh id (ok_sh r a)
  | _ => trivial
theorem tyO_sh (r : Rh h0.length h h') {v v' : Val} (a : Rn h0.length v v') {t : ClR} (e : tyO v h = some t) : tyO v' (h0 ++ h') = some t := by
  cases a with
  | opq => cases e
  | cl _ => cases e
  | loc m =>
    have e' : (match h[m]? with
      | some (.lst _) => some (ClR.ty "list")
      | some (.dK _) => some (.ty "dict")
      | some (.dT _) => some (.ty "dict")
      | _ => none) = some t := e
    show (match (h0 ++ h')[m + h0.length]? with
      | some (.lst _) => some (ClR.ty "list")
      | some (.dK _) => some (.ty "dict")
      | some (.dT _) => some (.ty "dict")
      | _ => none) = some t
    cases em : h[m]? with
    | none => rw [em] at e'; cases e'
    | some o =>
      obtain ⟨o', q, s⟩ := at_sh r em
      rw [em] at e'
      rw [q]
      cases s <;> exact e'
  | _ => exact e
theorem sh_isi (T : List (ClR × List (ClR × Bool))) (errs : List Str) (c : ClR) {v v' : Val} (r : Rh h0.length h h') (a : Rn h0.length v v') : Rr h0 (Rn h0.length) (vIsi T errs c v h) (vIsi T errs c v' (h0 ++ h')) := by
  unfold vIsi
  cases e : tyO v h with
  | none => trivial
  | some t =>
    rw [tyO_sh r a e]
    dsimp only
    split
    · exact ok_sh r (.bl _)
    · trivial
theorem mapKv_sh {f f' : Val → Option PyData} (hf : ∀ v v' d, Rn h0.length v v' → f v = some d → f' v' = some d) : ∀ {vs vs' : List (Key × Val)} {ds : List (PyData × PyData)}, Rkv h0.length vs vs' → mapKv f vs = some ds → mapKv f' vs' = some ds
  | _, _, _, .nil, e => e
  | (k, v) :: vs, (_, v') :: vs', ds, .cons r t, e => by
    unfold mapKv at e ⊢
    split at e
    · rename_i d ds' e1 e2
      rw [hf v v' d r e1, mapKv_sh hf t e2]
      exact e
    · cases e
theorem toR_sh (r : Rh h0.length h h') : ∀ (n : Nat) {v v' : Val} {d : PyData}, Rn h0.length v v' → toR n h v = some d → toR n (h0 ++ h') v' = some d
  | 0, _, _, _, _, e => by cases e
  | n + 1, v, v', d, a, e => by
    have ih : ∀ v v' d, Rn h0.length v v' → toR n h v = some d → toR n (h0 ++ h') v' = some d := fun _ _ _ => toR_sh r n
    cases a with
    | opq => cases e
    | non => exact e
    | bl b => exact e
    | int i => exact e
    | str x => exact e
    | err _ => cases e
    | ct _ => cases e
    | cl _ => cases e
    | tup a =>
      obtain ⟨ds, e1, e2⟩ := Option.map_eq_some_iff.mp (show (mapO (toR n h) _).map PyData.tuple = some d from e)
      show (mapO (toR n (h0 ++ h')) _).map PyData.tuple = some d
      rw [mapO_sh ih a e1]; exact congrArg some e2
    | loc m =>
      have e' : (match h[m]? with
        | some (.lst xs) => (mapO (toR n h) xs).map PyData.list
        | some (.dK kvs) => (mapKv (toR n h) kvs).map PyData.dict
        | _ => none) = some d := e
      show (match (h0 ++ h')[m + h0.length]? with
        | some (.lst xs) => (mapO (toR n (h0 ++ h')) xs).map PyData.list
        | some (.dK kvs) => (mapKv (toR n (h0 ++ h')) kvs).map PyData.dict
        | _ => none) = some d
      split at e'
      · rename_i em
        obtain ⟨o, q, s⟩ := at_sh r em
        cases s with
        | lst s =>
          obtain ⟨ds, e1, e2⟩ := Option.map_eq_some_iff.mp e'
          rw [q]
          show (mapO (toR n (h0 ++ h')) _).map PyData.list = some d
          rw [mapO_sh ih s e1]; exact congrArg some e2
      · rename_i em
        obtain ⟨o, q, s⟩ := at_sh r em
        cases s with
        | dK s =>
          obtain ⟨ds, e1, e2⟩ := Option.map_eq_some_iff.mp e'
          rw [q]
          show (mapKv (toR n (h0 ++ h')) _).map PyData.dict = some d
          rw [mapKv_sh ih s e1]; exact congrArg some e2
      · cases e'
theorem sh_rep {v v' : Val} (r : Rh h0.length h h') (a : Rn h0.length v v') : Rr h0 (Rn h0.length) (vRep v h) (vRep v' (h0 ++ h')) := by
  unfold vRep
  cases e : toR 40 h v with
  | none => trivial
  | some d =>
    rw [toR_sh r 40 a e]
    exact chk_sh id (ok_sh r (.str _))
/-! ### slots, targets, sources -/
def Rsl (k : Nat) (sl sl' : LS) : Prop := sl.length = sl'.length ∧ ∀ (i : Nat) (v : Val), sl[i]? = some (some v) → ∃ v', sl'[i]? = some (some v') ∧ Rn k v v'
theorem Rsl.set {k : Nat} {sl sl' : LS} {v v' : Val} (s : Rsl k sl sl') (a : Rn k v v') (i : Nat) : Rsl k (sl.set i (some v)) (sl'.set i (some v')) := by
  refine ⟨by simp [s.1], fun j w e => ?_⟩
  by_cases hj : i = j
  · subst hj
    by_cases hi : i < sl.length
    · rw [List.getElem?_set_self hi] at e
      cases e
      exact ⟨v', List.getElem?_set_self (by rw [← s.1]; exact hi), a⟩
    · rw [List.getElem?_eq_none (by simp; omega)] at e
      cases e
  · rw [List.getElem?_set_ne hj] at e ⊢
    exact s.2 j w e
theorem Rsl.off {k : Nat} {sl sl' : LS} (s : Rsl k sl sl') (i : Nat) : Rsl k (sl.set i Option.none) (sl'.set i Option.none) := by
  refine ⟨by simp [s.1], fun j w e => ?_⟩
  by_cases hj : i = j
  · subst hj
    by_cases hi : i < sl.length
    · rw [List.getElem?_set_self hi] at e
      cases e
    · rw [List.getElem?_eq_none (by simp; omega)] at e
      cases e
  · rw [List.getElem?_set_ne hj] at e ⊢
    exact s.2 j w e
theorem Rsl.wipe {k : Nat} {sl sl' : LS} (s : Rsl k sl sl') : ∀ vs : List Nat, Rsl k (wipeL sl vs) (wipeL sl' vs)
  | [] => s
  | v :: vs => (s.wipe vs).off v
theorem Rsl.start {k : Nat} {vs vs' : List Val} (s : Rns k vs vs') (n : Nat) : Rsl k (vs.map some ++ List.replicate (n - vs.length) none) (vs'.map some ++ List.replicate (n - vs'.length) none) := by
  rw [← s.len]
  refine ⟨by simp [s.len], fun i v e => ?_⟩
  by_cases hi : i < vs.length
  · rw [List.getElem?_append_left (by simpa using hi), List.getElem?_map] at e
    obtain ⟨w, e1, e2⟩ := Option.map_eq_some_iff.mp e
    cases e2
    have g := s.get i
    rw [e1] at g
    obtain ⟨y, e3, gy⟩ := g
    refine ⟨y, ?_, gy⟩
    rw [List.getElem?_append_left (by rw [List.length_map, ← s.len]; exact hi), List.getElem?_map, e3]
    rfl
  · rw [List.getElem?_append_right (by simp; omega)] at e
    have := List.mem_of_getElem? e
    simp at this
mutual
theorem bindT_sh : ∀ (t : ITg) {v v' : Val} {sl sl' sl1 : LS}, Rn h0.length v v' → Rsl h0.length sl sl' → bindT t v sl = some sl1 → ∃ sl1', bindT t v' sl' = some sl1' ∧ Rsl h0.length sl1 sl1'
  | .nm i, v, v', sl, sl', sl1, a, s, e => by
    have e' : some (sl.set i (some v)) = some sl1 := e
    cases e'
    exact ⟨_, rfl, s.set a i⟩
  | .tp ts, v, v', sl, sl', sl1, a, s, e => by
    have e' : (match seqT v with
      | some xs => bindTs ts xs sl
      | none => none) = some sl1 := e
    have q := seqT_sh a
    split at e'
    · rename_i xs ex
      rw [ex] at q
      obtain ⟨ys, ey, t⟩ := q
      obtain ⟨sl1', e1, e2⟩ := bindTs_sh ts t s e'
      refine ⟨sl1', ?_, e2⟩
      show (match seqT v' with
        | some xs => bindTs ts xs sl'
        | none => none) = some sl1'
      rw [ey]
      exact e1
    · cases e'
theorem bindTs_sh : ∀ (ts : List ITg) {vs vs' : List Val} {sl sl' sl1 : LS}, Rns h0.length vs vs' → Rsl h0.length sl sl' → bindTs ts vs sl = some sl1 → ∃ sl1', bindTs ts vs' sl' = some sl1' ∧ Rsl h0.length sl1 sl1'
  | [], _, _, sl, sl', sl1, .nil, s, e => by
    have e' : some sl = some sl1 := e
    cases e'
    exact ⟨_, rfl, s⟩
  | [], _, _, _, _, _, .cons _ _, _, e => by cases e
  | _ :: _, _, _, _, _, _, .nil, _, e => by cases e
  | t :: ts, v :: vs, v' :: vs', sl, sl', sl1, .cons a b, s, e => by
    have e' : (match bindT t v sl with
      | some sl1 => bindTs ts vs sl1
      | none => none) = some sl1 := e
    split at e'
    · rename_i sl2 e2
      obtain ⟨sl2', q1, q2⟩ := bindT_sh t a s e2
      obtain ⟨sl3', q3, q4⟩ := bindTs_sh ts b q2 e'
      refine ⟨sl3', ?_, q4⟩
      show (match bindT t v' sl' with
        | some sl1 => bindTs ts vs' sl1
        | none => none) = some sl3'
      rw [q1]
      exact q3
    · cases e'
end
inductive Rsrc (k : Nat) : Src → Src → Prop
  | seq {v v' : Val} : Rn k v v' → Rsrc k (.seq v) (.seq v')
  | rng (lo : Int) (n : Nat) : Rsrc k (.rng lo n) (.rng lo n)
  | enm {v v' : Val} : Rn k v v' → Rsrc k (.enm v) (.enm v')
  | zp {v v' w w' : Val} : Rn k v v' → Rn k w w' → Rsrc k (.zp v w) (.zp v' w')
theorem some_sh {α β : Type} {R : α → β → Prop} {x : Option α} {y : Option β} (r : Ro R x y) (e : x.isSome = true) : y.isSome = true := by
  obtain ⟨a, rfl⟩ := Option.isSome_iff_exists.mp e
  obtain ⟨b, rfl, _⟩ := r
  rfl
theorem mkSrc_sh (k : Nat) {vs vs' : List Val} (r : Rh h0.length h h') (s : Rns h0.length vs vs') {src : Src} (e : mkSrc k vs h = some src) : ∃ src', mkSrc k vs' (h0 ++ h') = some src' ∧ Rsrc h0.length src src' := by
  match k, e with
  | 0, e =>
    have e' : mkS0 vs h = some src := e
    show ∃ src', mkS0 vs' (h0 ++ h') = some src' ∧ _
    unfold mkS0 at e' ⊢
    split at e'
    · obtain ⟨v', rfl, a⟩ := one_of s rfl
      split at e'
      · rename_i hc
        cases e'
        refine ⟨_, if_pos ?_, .seq a⟩
        rcases (Bool.or_eq_true _ _).mp hc with hc | hc
        · rw [some_sh (seqL_sh r a) hc]; rfl
        · rw [some_sh (seqT_sh a) hc, Bool.or_true]
      · cases e'
    · cases e'
  | 1, e =>
    have e' : mkS1 vs = some src := e
    show ∃ src', mkS1 vs' = some src' ∧ _
    unfold mkS1 at e' ⊢
    split at e'
    · obtain ⟨v', rfl, a⟩ := one_of s rfl
      cases a
      split at e'
      · rename_i hc
        cases e'
        exact ⟨_, if_pos hc, .rng _ _⟩
      · cases e'
    · cases e'
  | 2, e =>
    have e' : mkS2 vs = some src := e
    show ∃ src', mkS2 vs' = some src' ∧ _
    unfold mkS2 at e' ⊢
    split at e'
    · cases s with
      | cons a s =>
        obtain ⟨v', rfl, b⟩ := one_of s rfl
        cases a
        cases b
        split at e'
        · rename_i hc
          cases e'
          exact ⟨_, if_pos hc, .rng _ _⟩
        · cases e'
    · cases e'
  | 3, e =>
    have e' : mkS3 vs h = some src := e
    show ∃ src', mkS3 vs' (h0 ++ h') = some src' ∧ _
    unfold mkS3 at e' ⊢
    split at e'
    · obtain ⟨v', rfl, a⟩ := one_of s rfl
      split at e'
      · rename_i hc
        cases e'
        exact ⟨_, if_pos (some_sh (seqL_sh r a) hc), .enm a⟩
      · cases e'
    · cases e'
  | 4, e =>
    have e' : mkS4 vs h = some src := e
    show ∃ src', mkS4 vs' (h0 ++ h') = some src' ∧ _
    unfold mkS4 at e' ⊢
    split at e'
    · cases s with
      | cons a s =>
        obtain ⟨v', rfl, b⟩ := one_of s rfl
        split at e'
        · rename_i hc
          cases e'
          obtain ⟨c1, c2⟩ := Bool.and_eq_true_iff.mp hc
          exact ⟨_, if_pos (by rw [some_sh (seqL_sh r a) c1, some_sh (seqL_sh r b) c2]; rfl), .zp a b⟩
        · cases e'
    · cases e'
theorem item_sh {s s' : Src} (i : Nat) (r : Rh h0.length h h') (q : Rsrc h0.length s s') {o : Option Val} (e : item s i h = some o) : ∃ o', item s' i (h0 ++ h') = some o' ∧ ((o = none ∧ o' = none) ∨ ∃ v v', o = some v ∧ o' = some v' ∧ Rn h0.length v v') := by
  have fin : ∀ {xs ys : List Val}, Rns h0.length xs ys → ∃ o', some ys[i]? = some o' ∧ ((xs[i]? = none ∧ o' = none) ∨ ∃ v v', xs[i]? = some v ∧ o' = some v' ∧ Rn h0.length v v') := by
    intro xs ys s
    cases z : xs[i]? with
    | none => exact ⟨_, rfl, .inl ⟨rfl, s.getN z⟩⟩
    | some v =>
      have g := s.get i
      rw [z] at g
      obtain ⟨v', e2, gv⟩ := g
      exact ⟨_, rfl, .inr ⟨v, v', rfl, e2, gv⟩⟩
  cases q with
  | @seq v v' a =>
    have e' : (match seqL v h with
      | some xs => some xs[i]?
      | none => match seqT v with
        | some xs => some xs[i]?
        | none => none) = some o := e
    show ∃ o', (match seqL v' (h0 ++ h') with
      | some xs => some xs[i]?
      | none => match seqT v' with
        | some xs => some xs[i]?
        | none => none) = some o' ∧ _
    have q1 := seqL_sh r a
    have q2 := seqT_sh a
    cases z : seqL v h with
    | some xs =>
      rw [z] at q1 e'
      obtain ⟨ys, e2, t⟩ := q1
      rw [e2]
      obtain rfl : xs[i]? = o := Option.some.inj e'
      exact fin t
    | none =>
      rw [z] at e'
      cases z2 : seqT v with
      | none => rw [z2] at e'; cases e'
      | some xs =>
        rw [z2] at q2 e'
        obtain ⟨ys, e2, t⟩ := q2
        rw [seqL_off a z2, e2]
        obtain rfl : xs[i]? = o := Option.some.inj e'
        exact fin t
  | rng lo n =>
    refine ⟨o, e, ?_⟩
    have e' : (if i < n then some (some (Val.int (lo + i))) else some none) = some o := e
    split at e'
    · cases e'; exact .inr ⟨_, _, rfl, rfl, .int _⟩
    · cases e'; exact .inl ⟨rfl, rfl⟩
  | @enm v v' a =>
    have e' : (match seqL v h with
      | some xs => (match xs[i]? with
        | some x => some (some (Val.tup [.int i, x]))
        | none => some none)
      | none => none) = some o := e
    show ∃ o', (match seqL v' (h0 ++ h') with
      | some xs => (match xs[i]? with
        | some x => some (some (Val.tup [.int i, x]))
        | none => some none)
      | none => none) = some o' ∧ _
    have q1 := seqL_sh r a
    cases z : seqL v h with
    | none => rw [z] at e'; cases e'
    | some xs =>
      rw [z] at q1 e'
      obtain ⟨ys, e2, t⟩ := q1
      rw [e2]
      dsimp only at e' ⊢
      cases z2 : xs[i]? with
      | none =>
        rw [z2] at e'
        rw [t.getN z2]
        cases e'
        exact ⟨_, rfl, .inl ⟨rfl, rfl⟩⟩
      | some x =>
        have g := t.get i
        rw [z2] at g e'
        obtain ⟨y, e3, gy⟩ := g
        rw [e3]
        cases e'
        exact ⟨_, rfl, .inr ⟨_, _, rfl, rfl, .tup (.cons (.int _) (.cons gy .nil))⟩⟩
  | @zp v v' w w' a b =>
    have e' : (match seqL v h, seqL w h with
      | some xs, some ys => (match xs[i]?, ys[i]? with
        | some x, some y => some (some (Val.tup [x, y]))
        | _, _ => some none)
      | _, _ => none) = some o := e
    show ∃ o', (match seqL v' (h0 ++ h'), seqL w' (h0 ++ h') with
      | some xs, some ys => (match xs[i]?, ys[i]? with
        | some x, some y => some (some (Val.tup [x, y]))
        | _, _ => some none)
      | _, _ => none) = some o' ∧ _
    have q1 := seqL_sh r a
    have q2 := seqL_sh r b
    cases z : seqL v h with
    | none => rw [z] at e'; cases e'
    | some xs =>
      cases z2 : seqL w h with
      | none => rw [z, z2] at e'; cases e'
      | some zs =>
        rw [z] at q1 e'
        rw [z2] at q2 e'
        obtain ⟨ys, e2, t⟩ := q1
        obtain ⟨us, e3, t2⟩ := q2
        rw [e2, e3]
        dsimp only at e' ⊢
        cases y1 : xs[i]? with
        | none =>
          rw [y1] at e'
          rw [t.getN y1]
          cases e'
          exact ⟨_, rfl, .inl ⟨rfl, rfl⟩⟩
        | some x =>
          have g := t.get i
          rw [y1] at g e'
          obtain ⟨x', e4, gx⟩ := g
          rw [e4]
          cases y2 : zs[i]? with
          | none =>
            rw [y2] at e'
            rw [t2.getN y2]
            cases e'
            exact ⟨_, rfl, .inl ⟨rfl, rfl⟩⟩
          | some u =>
            have g2 := t2.get i
            rw [y2] at g2 e'
            obtain ⟨u', e5, gu⟩ := g2
            rw [e5]
            cases e'
            exact ⟨_, rfl, .inr ⟨_, _, rfl, rfl, .tup (.cons gx (.cons gu .nil))⟩⟩
end
end Mi

set_option Elab.async false
set_option linter.all false
set_option maxRecDepth 100000
set_option maxHeartbeats 2000000
/-! N5: .. the run, level by level. -/
namespace Mi
open PySem L2
def Rs (h0 : LH) (x y : RsS) : Prop := match x with
  | .nx sl h => ∃ sl' h', y = .nx sl' (h0 ++ h') ∧ Rsl h0.length sl sl' ∧ Rh h0.length h h'
  | .rt v h => ∃ v' h', y = .rt v' (h0 ++ h') ∧ Rn h0.length v v' ∧ Rh h0.length h h'
  | .bk sl h => ∃ sl' h', y = .bk sl' (h0 ++ h') ∧ Rsl h0.length sl sl' ∧ Rh h0.length h h'
  | .ct sl h => ∃ sl' h', y = .ct sl' (h0 ++ h') ∧ Rsl h0.length sl sl' ∧ Rh h0.length h h'
  | .exc c v sl h => ∃ v' sl' h', y = .exc c v' sl' (h0 ++ h') ∧ Rn h0.length v v' ∧ Rsl h0.length sl sl' ∧ Rh h0.length h h'
  | .bad => True
structure Good (r : EV) : Prop where
  e : ∀ (h0 : LH) (d : Nat) (ie : IE) (sl sl' : LS) (h h' : LH), Rsl h0.length sl sl' → Rh h0.length h h' → Rr h0 (Rn h0.length) (r.e d ie sl h) (r.e d ie sl' (h0 ++ h'))
  t : ∀ (h0 : LH) (d : Nat) (ie : IE) (sl sl' : LS) (h h' : LH), Rsl h0.length sl sl' → Rh h0.length h h' → Rr h0 (· = ·) (r.t d ie sl h) (r.t d ie sl' (h0 ++ h'))
  s : ∀ (h0 : LH) (d : Nat) (b : List IS) (sl sl' : LS) (h h' : LH), Rsl h0.length sl sl' → Rh h0.length h h' → Rs h0 (r.s d b sl h) (r.s d b sl' (h0 ++ h'))
  f : ∀ (h0 : LH) (d : Nat) (tg : ITg) (b : List IS) (sr sr' : Src) (i : Nat) (sl sl' : LS) (h h' : LH), Rsrc h0.length sr sr' → Rsl h0.length sl sl' → Rh h0.length h h' → Rs h0 (r.f d tg b sr i sl h) (r.f d tg b sr' i sl' (h0 ++ h'))
  w : ∀ (h0 : LH) (d : Nat) (c : IE) (b : List IS) (sl sl' : LS) (h h' : LH), Rsl h0.length sl sl' → Rh h0.length h h' → Rs h0 (r.w d c b sl h) (r.w d c b sl' (h0 ++ h'))
  l : ∀ (h0 : LH) (d : Nat) (tg : ITg) (ifs : List IE) (el : IE) (ow : List Nat) (sr sr' : Src) (i D : Nat) (sl sl' : LS) (h h' : LH), Rsrc h0.length sr sr' → Rsl h0.length sl sl' → Rh h0.length h h' →
    Rr h0 (Rn h0.length) (r.l d tg ifs el ow sr i D sl h) (r.l d tg ifs el ow sr' i (D + h0.length) sl' (h0 ++ h'))
  c : ∀ (h0 : LH) (d k : Nat) (vs vs' : List Val) (h h' : LH), Rns h0.length vs vs' → Rh h0.length h h' → Rr h0 (Rn h0.length) (r.c d k vs h) (r.c d k vs' (h0 ++ h'))
theorem good_none : Good EV.none := ⟨fun _ _ _ _ _ _ _ _ _ => trivial, fun _ _ _ _ _ _ _ _ _ => trivial, fun _ _ _ _ _ _ _ _ _ => trivial, fun _ _ _ _ _ _ _ _ _ _ _ _ _ _ => trivial, fun _ _ _ _ _ _ _ _ _ _ => trivial, fun _ _ _ _ _ _ _ _ _ _ _ _ _ _ _ _ _ => trivial, fun _ _ _ _ _ _ _ _ _ => trivial⟩
section
variable {r : EV} {h0 : LH} {d : Nat}
abbrev MR (h0 : LH) (m : M Val) : Prop := ∀ (sl sl' : LS) (h h' : LH), Rsl h0.length sl sl' → Rh h0.length h h' → Rr h0 (Rn h0.length) (m sl h) (m sl' (h0 ++ h'))
abbrev MRB (h0 : LH) (m : M Bool) : Prop := ∀ (sl sl' : LS) (h h' : LH), Rsl h0.length sl sl' → Rh h0.length h h' → Rr h0 (· = ·) (m sl h) (m sl' (h0 ++ h'))
abbrev MRL (h0 : LH) (m : M (List Val)) : Prop := ∀ (sl sl' : LS) (h h' : LH), Rsl h0.length sl sl' → Rh h0.length h h' → Rr h0 (Rns h0.length) (m sl h) (m sl' (h0 ++ h'))
theorem evL_sh {ev : IE → LS → LH → Res Val} (g : ∀ i, MR h0 (ev i)) : ∀ is : List IE, MRL h0 (evL ev is)
  | [], sl, sl', h, h', s, q => ⟨[], h', rfl, .nil, q⟩
  | i :: is, sl, sl', h, h', s, q => (g i sl sl' h h' s q).bind fun a b h1 h1' r1 q1 => (evL_sh g is sl sl' h1 h1' s q1).bind fun as bs h2 h2' r2 q2 => ⟨_, _, rfl, .cons r1 r2, q2⟩
theorem evAn_sh {ev : IE → LS → LH → Res Val} (g : ∀ i, MR h0 (ev i)) : ∀ is : List IE, MR h0 (evAn ev is)
  | [], _, _, _, _, _, _ => trivial
  | [i], sl, sl', h, h', s, q => g i sl sl' h h' s q
  | i :: j :: is, sl, sl', h, h', s, q => (g i sl sl' h h' s q).bind fun a b h1 h1' r1 q1 => by
    cases r1 with
    | bl b => cases b with
      | true => exact evAn_sh g (j :: is) sl sl' h1 h1' s q1
      | false => exact ok_sh q1 (.bl _)
    | _ => trivial
theorem evOr_sh {ev : IE → LS → LH → Res Val} (g : ∀ i, MR h0 (ev i)) : ∀ is : List IE, MR h0 (evOr ev is)
  | [], _, _, _, _, _, _ => trivial
  | [i], sl, sl', h, h', s, q => g i sl sl' h h' s q
  | i :: j :: is, sl, sl', h, h', s, q => (g i sl sl' h h' s q).bind fun a b h1 h1' r1 q1 => by
    cases r1 with
    | bl b => cases b with
      | false => exact evOr_sh g (j :: is) sl sl' h1 h1' s q1
      | true => exact ok_sh q1 (.bl _)
    | _ => trivial
theorem okB_sh {b : Bool} {h h' : LH} (q : Rh h0.length h h') : Rr h0 (· = ·) (.ok b h) (.ok b (h0 ++ h')) := ⟨b, h', rfl, rfl, q⟩
theorem tsAn_sh {ev : IE → LS → LH → Res Bool} (g : ∀ i, MRB h0 (ev i)) : ∀ is : List IE, MRB h0 (tsAn ev is)
  | [], _, _, _, _, _, _ => trivial
  | [i], sl, sl', h, h', s, q => g i sl sl' h h' s q
  | i :: j :: is, sl, sl', h, h', s, q => (g i sl sl' h h' s q).bind fun a b h1 h1' r1 q1 => by
    subst r1
    cases a with
    | true => exact tsAn_sh g (j :: is) sl sl' h1 h1' s q1
    | false => exact okB_sh q1
theorem tsOr_sh {ev : IE → LS → LH → Res Bool} (g : ∀ i, MRB h0 (ev i)) : ∀ is : List IE, MRB h0 (tsOr ev is)
  | [], _, _, _, _, _, _ => trivial
  | [i], sl, sl', h, h', s, q => g i sl sl' h h' s q
  | i :: j :: is, sl, sl', h, h', s, q => (g i sl sl' h h' s q).bind fun a b h1 h1' r1 q1 => by
    subst r1
    cases a with
    | false => exact tsOr_sh g (j :: is) sl sl' h1 h1' s q1
    | true => exact okB_sh q1
theorem tsIf_sh {ev : IE → LS → LH → Res Bool} (g : ∀ i, MRB h0 (ev i)) : ∀ is : List IE, MRB h0 (tsIf ev is)
  | [], sl, sl', h, h', s, q => okB_sh q
  | [i], sl, sl', h, h', s, q => g i sl sl' h h' s q
  | _ :: _ :: _, _, _, _, _, _, _ => trivial
theorem putAll_sh : ∀ {ks : List Str} {vs vs' : List Val} {kvs kvs' : List (Key × Val)}, Rns h0.length vs vs' → Rkv h0.length kvs kvs' → Rkv h0.length (putAll kvs ks vs) (putAll kvs' ks vs')
  | [], _, _, _, _, .nil, s => s
  | [], _, _, _, _, .cons _ _, s => s
  | _ :: _, _, _, _, _, .nil, s => s
  | k :: ks, v :: vs, v' :: vs', kvs, kvs', .cons a t, s => putAll_sh (ks := ks) t (put_sh a (Sum.inr k) s)
theorem dsp_sh (ks : List Str) {ml : M (List Val)} (g : MRL h0 ml) : MR h0 (vDsp ks ml) := by
  intro sl sl' h h' s q
  unfold vDsp
  have q1 : Rh h0.length (h ++ [.dK []]) (h' ++ [.dK []]) := q.app (.dK .nil)
  have g1 := g sl sl' _ _ s q1
  rw [← List.append_assoc] at g1
  have el : (h0 ++ h').length = h.length + h0.length := by rw [List.length_append, q.len, Nat.add_comm]
  rw [el]
  refine g1.bind fun vs vs' h1 h1' r1 q2 => ?_
  split
  · rename_i em
    obtain ⟨o, e2, so⟩ := at_sh q2 em
    cases so with
    | dK so =>
      cases so
      rw [e2]
      refine chk_sh (by rw [r1.len]; exact id) ?_
      rw [set_sh]
      exact ⟨_, _, rfl, .loc _, q2.set (.dK (putAll_sh r1 .nil)) _⟩
  · trivial
theorem good_e (G : Prg) (g : Good r) : ∀ (d : Nat) (ie : IE), MR h0 (stE G r d ie) := by
  intro d ie sl sl' h h' s q
  have ge : ∀ d i, MR h0 (r.e d i) := fun d i sl sl' h h' => g.e h0 d i sl sl' h h'
  have gt : ∀ d i, MRB h0 (r.t d i) := fun d i sl sl' h h' => g.t h0 d i sl sl' h h'
  cases ie with
  | cst v =>
    cases e : noLoc v with
    | false => show Rr h0 _ (chk (noLoc v) _) _; rw [e]; trivial
    | true => exact chk_sh id (ok_sh q (rn_self e))
  | var i =>
    show Rr h0 (Rn h0.length) (match sl[i]? with
      | some (some v) => .ok v h
      | _ => .bad) (match sl'[i]? with
      | some (some v) => .ok v (h0 ++ h')
      | _ => .bad)
    split
    · rename_i v e
      obtain ⟨v', e2, a⟩ := s.2 i v e
      rw [e2]
      exact ok_sh q a
    · trivial
  | bin op a b => exact (ge d a sl sl' h h' s q).bind fun v v' h1 h1' r1 q1 => (ge d b sl sl' h1 h1' s q1).bind fun w w' h2 h2' r2 q2 => sh_bin op q2 r1 r2
  | neg a => exact (ge d a sl sl' h h' s q).bind fun v v' h1 h1' r1 q1 => sh_neg q1 r1
  | cmp op a b => exact (ge d a sl sl' h h' s q).bind fun v v' h1 h1' r1 q1 => (ge d b sl sl' h1 h1' s q1).bind fun w w' h2 h2' r2 q2 => sh_cmp op q2 r1 r2
  | chn op op' a b c =>
    exact (ge d a sl sl' h h' s q).bind fun v v' h1 h1' r1 q1 => (ge d b sl sl' h1 h1' s q1).bind fun w w' h2 h2' r2 q2 => (sh_cmp op q2 r1 r2).bind fun z z' h3 h3' r3 q3 => by
      cases r3 with
      | bl b =>
        cases b with
        | true => exact (ge d c sl sl' h3 h3' s q3).bind fun u u' h4 h4' r4 q4 => sh_cmp op' q4 r2 r4
        | false => exact ok_sh q3 (.bl _)
      | _ => trivial
  | nt a =>
    exact (ge d a sl sl' h h' s q).bind fun v v' h1 h1' r1 q1 => by
      cases r1 with
      | bl b => exact ok_sh q1 (.bl _)
      | _ => trivial
  | an es => exact evAn_sh (ge d) es sl sl' h h' s q
  | orr es => exact evOr_sh (ge d) es sl sl' h h' s q
  | ife c a b =>
    exact (gt d c sl sl' h h' s q).bind fun v v' h1 h1' r1 q1 => by
      subst r1
      cases v with
      | true => exact ge d a sl sl' h1 h1' s q1
      | false => exact ge d b sl sl' h1 h1' s q1
  | tp es => exact (evL_sh (ge d) es sl sl' h h' s q).bind fun vs vs' h1 h1' r1 q1 => chk_sh (by rw [r1.len]; exact id) (ok_sh q1 (.tup r1))
  | ls es => exact (evL_sh (ge d) es sl sl' h h' s q).bind fun vs vs' h1 h1' r1 q1 => chk_sh (by rw [r1.len]; exact id) (newL_sh q1 r1)
  | cal f es =>
    cases d with
    | zero => trivial
    | succ d => exact (evL_sh (ge (d + 1)) es sl sl' h h' s q).bind fun vs vs' h1 h1' r1 q1 => g.c h0 d f vs vs' h1 h1' r1 q1
  | blt b es => exact (evL_sh (ge d) es sl sl' h h' s q).bind fun vs vs' h1 h1' r1 q1 => sh_bi b q1 r1
  | lrg a =>
    exact (ge d a sl sl' h h' s q).bind fun v v' h1 h1' r1 q1 => by
      cases r1 with
      | int n => exact chk_sh id (newL_sh q1 (rns_self (by
          have : ∀ l : List Nat, noLocs (l.map fun (i : Nat) => Val.int (i : Int)) = true := by
            intro l
            induction l with
            | nil => rfl
            | cons a l ih => exact ih
          exact this _)))
      | _ => trivial
  | mth m o es =>
    exact (ge d o sl sl' h h' s q).bind fun v v' h1 h1' r1 q1 => by
      cases e : okTy m v h1 with
      | false => trivial
      | true =>
        rw [okTy_sh m q1 r1 e]
        exact (evL_sh (ge d) es sl sl' h1 h1' s q1).bind fun vs vs' h2 h2' r2 q2 => sh_mt m q2 r1 r2
  | ix a b => exact (ge d a sl sl' h h' s q).bind fun v v' h1 h1' r1 q1 => (ge d b sl sl' h1 h1' s q1).bind fun w w' h2 h2' r2 q2 => sh_ix q2 r1 r2
  | sl a lo hi =>
    refine (ge d a sl sl' h h' s q).bind fun v v' h1 h1' r1 q1 => ?_
    cases lo with
    | none =>
      cases hi with
      | none => exact sh_sl _ _ q1 r1
      | some u =>
        exact (ge d u sl sl' h1 h1' s q1).bind fun w w' h2 h2' r2 q2 => by
          cases r2 with
          | int i => exact sh_sl _ _ q2 r1
          | _ => trivial
    | some l =>
      cases hi with
      | none =>
        exact (ge d l sl sl' h1 h1' s q1).bind fun w w' h2 h2' r2 q2 => by
          cases r2 with
          | int i => exact sh_sl _ _ q2 r1
          | _ => trivial
      | some u =>
        exact (ge d l sl sl' h1 h1' s q1).bind fun w w' h2 h2' r2 q2 => by
          cases r2 with
          | int i =>
            exact (ge d u sl sl' h2 h2' s q2).bind fun x x' h3 h3' r3 q3 => by
              cases r3 with
              | int j => exact sh_sl _ _ q3 r1
              | _ => trivial
          | _ => trivial
  | mkE c e => exact (ge d e sl sl' h h' s q).bind fun v v' h1 h1' r1 q1 => ok_sh q1 (.err r1)
  | fld e => exact (ge d e sl sl' h h' s q).bind fun v v' h1 h1' r1 q1 => sh_fld G.errs q1 r1
  | isi e c => exact (ge d e sl sl' h h' s q).bind fun v v' h1 h1' r1 q1 => sh_isi G.isiT G.errs c q1 r1
  | rpr e => exact (ge d e sl sl' h h' s q).bind fun v v' h1 h1' r1 q1 => sh_rep q1 r1
  | dsp ks es =>
    cases ks with
    | nil => exact new_sh q (.dK .nil)
    | cons k ks => exact dsp_sh (k :: ks) (evL_sh (ge d) es) sl sl' h h' s q
  | lc tg k es ifs elt own =>
    refine (evL_sh (ge d) es sl sl' h h' s q).bind fun vs vs' h1 h1' r1 q1 => ?_
    cases e : mkSrc k vs h1 with
    | none => trivial
    | some src =>
      obtain ⟨src', e2, rs⟩ := mkSrc_sh k q1 r1 e
      rw [e2]
      have el : (h0 ++ h1').length = h1.length + h0.length := by rw [List.length_append, q1.len, Nat.add_comm]
      rw [el]
      have z := g.l h0 d tg ifs elt own src src' 0 h1.length (wipeL sl own) (wipeL sl' own) (h1 ++ [.lst []]) (h1' ++ [.lst []]) rs (s.wipe own) (q1.app (.lst .nil))
      rw [← List.append_assoc] at z
      exact z
theorem good_t (g : Good r) : ∀ (d : Nat) (ie : IE), MRB h0 (stT r d ie) := by
  intro d ie sl sl' h h' s q
  have ge : ∀ d i, MR h0 (r.e d i) := fun d i sl sl' h h' => g.e h0 d i sl sl' h h'
  have gt : ∀ d i, MRB h0 (r.t d i) := fun d i sl sl' h h' => g.t h0 d i sl sl' h h'
  have tru : ∀ e, Rr h0 (· = ·) ((r.e d e sl h).bind fun v h1 => match truO v h1 with
    | some b => .ok b h1
    | none => .bad) ((r.e d e sl' (h0 ++ h')).bind fun v h1 => match truO v h1 with
    | some b => .ok b h1
    | none => .bad) := fun e => (ge d e sl sl' h h' s q).bind fun v v' h1 h1' r1 q1 => by
      cases z : truO v h1 with
      | none => trivial
      | some b => rw [truO_sh q1 r1 z]; exact okB_sh q1
  have bv : ∀ e, Rr h0 (· = ·) ((r.e d e sl h).bind fun v h1 => match v with
    | .bl b => .ok b h1
    | _ => .bad) ((r.e d e sl' (h0 ++ h')).bind fun v h1 => match v with
    | .bl b => .ok b h1
    | _ => .bad) := fun e => (ge d e sl sl' h h' s q).bind fun v v' h1 h1' r1 q1 => by
      cases r1 with
      | bl b => exact okB_sh q1
      | _ => trivial
  cases ie with
  | nt a =>
    exact (gt d a sl sl' h h' s q).bind fun v v' h1 h1' r1 q1 => by
      subst r1
      exact okB_sh q1
  | an es => exact tsAn_sh (gt d) es sl sl' h h' s q
  | orr es => exact tsOr_sh (gt d) es sl sl' h h' s q
  | cmp op a b => exact bv _
  | chn op op' a b c => exact bv _
  | ife _ _ _ => trivial
  | _ => exact tru _
theorem ofR_sh {x y : Res Val} {sl sl' : LS} {f g : Val → LH → RsS} (a : Rr h0 (Rn h0.length) x y) (s : Rsl h0.length sl sl') (t : ∀ v w h h', Rn h0.length v w → Rh h0.length h h' → Rs h0 (f v h) (g w (h0 ++ h'))) : Rs h0 (ofR x sl f) (ofR y sl' g) := by
  cases x with
  | bad => trivial
  | ok v h => obtain ⟨w, h', rfl, r1, r2⟩ := a; exact t v w h h' r1 r2
  | exc c v h => obtain ⟨w, h', rfl, r1, r2⟩ := a; exact ⟨w, sl', h', rfl, r1, s, r2⟩
theorem ofRB_sh {x y : Res Bool} {sl sl' : LS} {f g : Bool → LH → RsS} (a : Rr h0 (· = ·) x y) (s : Rsl h0.length sl sl') (t : ∀ v h h', Rh h0.length h h' → Rs h0 (f v h) (g v (h0 ++ h'))) : Rs h0 (ofRB x sl f) (ofRB y sl' g) := by
  cases x with
  | bad => trivial
  | ok v h => obtain ⟨w, h', rfl, rfl, r2⟩ := a; exact t _ h h' r2
  | exc c v h => obtain ⟨w, h', rfl, r1, r2⟩ := a; exact ⟨w, sl', h', rfl, r1, s, r2⟩
theorem ofRL_sh {x y : Res (List Val)} {sl sl' : LS} {f g : List Val → LH → RsS} (a : Rr h0 (Rns h0.length) x y) (s : Rsl h0.length sl sl') (t : ∀ v w h h', Rns h0.length v w → Rh h0.length h h' → Rs h0 (f v h) (g w (h0 ++ h'))) : Rs h0 (ofRL x sl f) (ofRL y sl' g) := by
  cases x with
  | bad => trivial
  | ok v h => obtain ⟨w, h', rfl, r1, r2⟩ := a; exact t v w h h' r1 r2
  | exc c v h => obtain ⟨w, h', rfl, r1, r2⟩ := a; exact ⟨w, sl', h', rfl, r1, s, r2⟩
theorem good_s1 (g : Good r) (d : Nat) (st : IS) (sl sl' : LS) (h h' : LH) (s : Rsl h0.length sl sl') (q : Rh h0.length h h') : Rs h0 (stS1 r d st sl h) (stS1 r d st sl' (h0 ++ h')) := by
  have ge : ∀ d i, MR h0 (r.e d i) := fun d i sl sl' h h' => g.e h0 d i sl sl' h h'
  cases st with
  | ex e => exact ofR_sh (ge d e sl sl' h h' s q) s fun v w h1 h1' r1 q1 => ⟨_, _, rfl, s, q1⟩
  | asg tg e =>
    refine ofR_sh (ge d e sl sl' h h' s q) s fun v w h1 h1' r1 q1 => ?_
    unfold nxB
    cases z : bindT tg v sl with
    | none => trivial
    | some sl1 =>
      obtain ⟨sl1', e2, s2⟩ := bindT_sh tg r1 s z
      rw [e2]
      exact ⟨_, _, rfl, s2, q1⟩
  | sub o i e =>
    refine ofR_sh (ge d e sl sl' h h' s q) s fun v w h1 h1' r1 q1 => ofR_sh (ge d o sl sl' h1 h1' s q1) s fun ov ow h2 h2' r2 q2 => ofR_sh (ge d i sl sl' h2 h2' s q2) s fun iv iw h3 h3' r3 q3 => ?_
    cases z : vSet ov iv v h3 with
    | none => trivial
    | some h4 =>
      obtain ⟨h4', e2, q4⟩ := set_sh2 q3 r2 r3 r1 z
      rw [e2]
      exact ⟨_, _, rfl, s, q4⟩
  | ret o =>
    cases o with
    | none => exact ⟨_, _, rfl, .non, q⟩
    | some e => exact ofR_sh (ge d e sl sl' h h' s q) s fun v w h1 h1' r1 q1 => ⟨_, _, rfl, r1, q1⟩
  | iff c a b =>
    refine ofRB_sh (g.t h0 d c sl sl' h h' s q) s fun v h1 h1' q1 => ?_
    cases v with
    | true => exact g.s h0 d a sl sl' h1 h1' s q1
    | false => exact g.s h0 d b sl sl' h1 h1' s q1
  | for_ tg k es body =>
    refine ofRL_sh (evL_sh (ge d) es sl sl' h h' s q) s fun vs ws h1 h1' r1 q1 => ?_
    cases z : mkSrc k vs h1 with
    | none => trivial
    | some src =>
      obtain ⟨src', e2, rs⟩ := mkSrc_sh k q1 r1 z
      rw [e2]
      exact g.f h0 d tg body src src' 0 sl sl' h1 h1' rs s q1
  | whl c body => exact g.w h0 d c body sl sl' h h' s q
  | brk => exact ⟨_, _, rfl, s, q⟩
  | cnt => exact ⟨_, _, rfl, s, q⟩
  | pas => exact ⟨_, _, rfl, s, q⟩
  | nev => trivial
theorem good_next (G : Prg) (g : Good r) : Good (EV.next G r) := by
  refine ⟨fun h0 d ie sl sl' h h' => good_e G g d ie sl sl' h h', fun h0 d ie sl sl' h h' => good_t g d ie sl sl' h h', fun h0 d b sl sl' h h' s q => ?_, fun h0 d tg b sr sr' i sl sl' h h' rs s q => ?_, fun h0 d c b sl sl' h h' s q => ?_, fun h0 d tg ifs el ow sr sr' i D sl sl' h h' rs s q => ?_, fun h0 d k vs vs' h h' s q => ?_⟩
  · show Rs h0 (stS r d b sl h) (stS r d b sl' (h0 ++ h'))
    cases b with
    | nil => exact ⟨_, _, rfl, s, q⟩
    | cons st rest =>
      have z := good_s1 (h0 := h0) g d st sl sl' h h' s q
      show Rs h0 (match stS1 r d st sl h with
        | .nx sl1 h1 => r.s d rest sl1 h1
        | x => x) (match stS1 r d st sl' (h0 ++ h') with
        | .nx sl1 h1 => r.s d rest sl1 h1
        | x => x)
      cases e : stS1 r d st sl h with
      | bad => trivial
      | nx sl1 h1 => rw [e] at z; obtain ⟨sl1', h1', e2, s1, q1⟩ := z; rw [e2]; exact g.s h0 d rest sl1 sl1' h1 h1' s1 q1
      | rt v h1 => rw [e] at z; obtain ⟨v', h1', e2, s1, q1⟩ := z; rw [e2]; exact ⟨_, _, rfl, s1, q1⟩
      | bk v h1 => rw [e] at z; obtain ⟨v', h1', e2, s1, q1⟩ := z; rw [e2]; exact ⟨_, _, rfl, s1, q1⟩
      | ct v h1 => rw [e] at z; obtain ⟨v', h1', e2, s1, q1⟩ := z; rw [e2]; exact ⟨_, _, rfl, s1, q1⟩
      | exc c v sl1 h1 => rw [e] at z; obtain ⟨v', sl1', h1', e2, a, s1, q1⟩ := z; rw [e2]; exact ⟨_, _, _, rfl, a, s1, q1⟩
  · show Rs h0 (stF r d tg b sr i sl h) (stF r d tg b sr' i sl' (h0 ++ h'))
    unfold stF
    cases e : item sr i h with
    | none => trivial
    | some o =>
      obtain ⟨o', e2, z⟩ := item_sh i q rs e
      rw [e2]
      rcases z with ⟨rfl, rfl⟩ | ⟨v, v', rfl, rfl, a⟩
      · exact ⟨_, _, rfl, s, q⟩
      · dsimp only
        cases e3 : bindT tg v sl with
        | none => trivial
        | some sl1 =>
          obtain ⟨sl1', e4, s1⟩ := bindT_sh tg a s e3
          rw [e4]
          dsimp only
          have z := g.s h0 d b sl1 sl1' h h' s1 q
          cases e5 : r.s d b sl1 h with
          | bad => trivial
          | nx sl2 h1 => rw [e5] at z; obtain ⟨sl2', h1', e6, s2, q1⟩ := z; rw [e6]; exact g.f h0 d tg b sr sr' (i + 1) sl2 sl2' h1 h1' rs s2 q1
          | ct sl2 h1 => rw [e5] at z; obtain ⟨sl2', h1', e6, s2, q1⟩ := z; rw [e6]; exact g.f h0 d tg b sr sr' (i + 1) sl2 sl2' h1 h1' rs s2 q1
          | bk sl2 h1 => rw [e5] at z; obtain ⟨sl2', h1', e6, s2, q1⟩ := z; rw [e6]; exact ⟨_, _, rfl, s2, q1⟩
          | rt v h1 => rw [e5] at z; obtain ⟨v', h1', e6, s2, q1⟩ := z; rw [e6]; exact ⟨_, _, rfl, s2, q1⟩
          | exc c v sl2 h1 => rw [e5] at z; obtain ⟨v', sl2', h1', e6, a, s2, q1⟩ := z; rw [e6]; exact ⟨_, _, _, rfl, a, s2, q1⟩
  · show Rs h0 (stW r d c b sl h) (stW r d c b sl' (h0 ++ h'))
    unfold stW
    refine ofRB_sh (g.t h0 d c sl sl' h h' s q) s fun v h1 h1' q1 => ?_
    cases v with
    | false => exact ⟨_, _, rfl, s, q1⟩
    | true =>
      dsimp only
      have z := g.s h0 d b sl sl' h1 h1' s q1
      cases e5 : r.s d b sl h1 with
      | bad => trivial
      | nx sl2 h1 => rw [e5] at z; obtain ⟨sl2', h1', e6, s2, q1⟩ := z; rw [e6]; exact g.w h0 d c b sl2 sl2' h1 h1' s2 q1
      | ct sl2 h1 => rw [e5] at z; obtain ⟨sl2', h1', e6, s2, q1⟩ := z; rw [e6]; exact g.w h0 d c b sl2 sl2' h1 h1' s2 q1
      | bk sl2 h1 => rw [e5] at z; obtain ⟨sl2', h1', e6, s2, q1⟩ := z; rw [e6]; exact ⟨_, _, rfl, s2, q1⟩
      | rt v h1 => rw [e5] at z; obtain ⟨v', h1', e6, s2, q1⟩ := z; rw [e6]; exact ⟨_, _, rfl, s2, q1⟩
      | exc c v sl2 h1 => rw [e5] at z; obtain ⟨v', sl2', h1', e6, a, s2, q1⟩ := z; rw [e6]; exact ⟨_, _, _, rfl, a, s2, q1⟩
  · show Rr h0 (Rn h0.length) (stL r d tg ifs el ow sr i D sl h) (stL r d tg ifs el ow sr' i (D + h0.length) sl' (h0 ++ h'))
    unfold stL
    have calmS : ∀ {α β : Type} {R : α → β → Prop} {x : Res α} {y : Res β}, Rr h0 R x y → Rr h0 R (calm x) (calm y) := by
      intro α β R x y z
      cases x with
      | bad => trivial
      | ok a h => obtain ⟨b, h', rfl, r1, r2⟩ := z; exact ⟨b, h', rfl, r1, r2⟩
      | exc c v h => trivial
    cases e : item sr i h with
    | none => trivial
    | some o =>
      obtain ⟨o', e2, z⟩ := item_sh i q rs e
      rw [e2]
      rcases z with ⟨rfl, rfl⟩ | ⟨v, v', rfl, rfl, a⟩
      · exact ok_sh q (.loc _)
      · dsimp only
        cases e3 : bindT tg v sl with
        | none => trivial
        | some sl1 =>
          obtain ⟨sl1', e4, s1⟩ := bindT_sh tg a s e3
          rw [e4]
          dsimp only
          refine (calmS (tsIf_sh (fun i sl sl' h h' => g.t h0 d i sl sl' h h') ifs sl1 sl1' h h' s1 q)).bind fun b b' h1 h1' r1 q1 => ?_
          subst r1
          cases b with
          | false => exact g.l h0 d tg ifs el ow sr sr' (i + 1) D sl sl' h1 h1' rs s q1
          | true =>
            dsimp only
            refine (calmS (g.e h0 d el sl1 sl1' h1 h1' s1 q1)).bind fun y y' h2 h2' r2 q2 => ?_
            split
            · rename_i acc em
              obtain ⟨o, e6, so⟩ := at_sh q2 em
              cases so with
              | lst so =>
                rw [e6]
                dsimp only
                rw [← so.len]
                cases e7 : decide (acc.length < sizeLine) with
                | false => trivial
                | true =>
                  dsimp only
                  rw [set_sh]
                  exact g.l h0 d tg ifs el ow sr sr' (i + 1) D sl sl' _ _ rs s (q2.set (.lst (so.app (.cons r2 .nil))) D)
            · trivial
  · show Rr h0 (Rn h0.length) (stC G r d k vs h) (stC G r d k vs' (h0 ++ h'))
    unfold stC
    split
    · trivial
    · rename_i D eD
      rw [← s.len]
      cases e : decide (vs.length = D.ps) with
      | false => trivial
      | true =>
        dsimp only
        have z := g.s h0 d D.body _ _ h h' (Rsl.start s D.n) q
        rw [← s.len] at z
        cases e5 : r.s d D.body (vs.map some ++ List.replicate (D.n - vs.length) none) h with
        | bad => trivial
        | bk _ _ => trivial
        | ct _ _ => trivial
        | nx sl2 h1 => rw [e5] at z; obtain ⟨sl2', h1', e6, s2, q1⟩ := z; rw [e6]; exact ok_sh q1 .non
        | rt v h1 => rw [e5] at z; obtain ⟨v', h1', e6, s2, q1⟩ := z; rw [e6]; exact ok_sh q1 s2
        | exc c v sl2 h1 => rw [e5] at z; obtain ⟨v', sl2', h1', e6, a, s2, q1⟩ := z; rw [e6]; exact ⟨_, _, rfl, a, q1⟩
theorem good_run (G : Prg) : ∀ n, Good (run G n)
  | 0 => good_none
  | n + 1 => good_next G (good_run G n)
/-- a call over an elder heap, from the call over a heap of its own -/
theorem call_over {G : Prg} {n d k : Nat} {vs vs' : List Val} {h h' h1 : LH} {v : Val} {h0 : LH} (e : (run G n).c d k vs h = .ok v h1) (s : Rns h0.length vs vs') (q : Rh h0.length h h') : ∃ v' h1', (run G n).c d k vs' (h0 ++ h') = .ok v' (h0 ++ h1') ∧ Rn h0.length v v' ∧ Rh h0.length h1 h1' := by
  have z := (good_run G n).c h0 d k vs vs' h h' s q
  rw [e] at z
  exact z
end
end Mi

set_option Elab.async false
set_option linter.all false
set_option maxRecDepth 100000
set_option maxHeartbeats 2000000
/-! N6: more fuel, more depth: the same result. -/
namespace Mi
open PySem L2
def Lb {α : Type} (x y : Res α) : Prop := x = .bad ∨ y = x
def LbS (x y : RsS) : Prop := x = .bad ∨ y = x
theorem Lb.rfl' {α : Type} (x : Res α) : Lb x x := .inr rfl
theorem Lb.bind {α β : Type} {x y : Res α} {f g : α → LH → Res β} (a : Lb x y) (b : ∀ v h, Lb (f v h) (g v h)) : Lb (x.bind f) (y.bind g) := by
  rcases a with rfl | rfl
  · exact .inl rfl
  · cases y with
    | bad => exact .inl rfl
    | ok v h => exact b v h
    | exc c v h => exact .inr rfl
theorem LbS.ofR {x y : Res Val} {sl : LS} {f g : Val → LH → RsS} (a : Lb x y) (b : ∀ v h, LbS (f v h) (g v h)) : LbS (ofR x sl f) (ofR y sl g) := by
  rcases a with rfl | rfl
  · exact .inl rfl
  · cases y with
    | bad => exact .inl rfl
    | ok v h => exact b v h
    | exc c v h => exact .inr rfl
theorem LbS.ofRB {x y : Res Bool} {sl : LS} {f g : Bool → LH → RsS} (a : Lb x y) (b : ∀ v h, LbS (f v h) (g v h)) : LbS (ofRB x sl f) (ofRB y sl g) := by
  rcases a with rfl | rfl
  · exact .inl rfl
  · cases y with
    | bad => exact .inl rfl
    | ok v h => exact b v h
    | exc c v h => exact .inr rfl
theorem LbS.ofRL {x y : Res (List Val)} {sl : LS} {f g : List Val → LH → RsS} (a : Lb x y) (b : ∀ v h, LbS (f v h) (g v h)) : LbS (ofRL x sl f) (ofRL y sl g) := by
  rcases a with rfl | rfl
  · exact .inl rfl
  · cases y with
    | bad => exact .inl rfl
    | ok v h => exact b v h
    | exc c v h => exact .inr rfl
structure Le (k : Nat) (r q : EV) : Prop where
  e : ∀ d i sl h, Lb (r.e d i sl h) (q.e (d + k) i sl h)
  t : ∀ d i sl h, Lb (r.t d i sl h) (q.t (d + k) i sl h)
  s : ∀ d b sl h, LbS (r.s d b sl h) (q.s (d + k) b sl h)
  f : ∀ d tg b s i sl h, LbS (r.f d tg b s i sl h) (q.f (d + k) tg b s i sl h)
  w : ∀ d c b sl h, LbS (r.w d c b sl h) (q.w (d + k) c b sl h)
  l : ∀ d tg ifs el ow s i D sl h, Lb (r.l d tg ifs el ow s i D sl h) (q.l (d + k) tg ifs el ow s i D sl h)
  c : ∀ d j vs h, Lb (r.c d j vs h) (q.c (d + k) j vs h)
theorem le_none (k : Nat) (q : EV) : Le k EV.none q := ⟨fun _ _ _ _ => .inl rfl, fun _ _ _ _ => .inl rfl, fun _ _ _ _ => .inl rfl, fun _ _ _ _ _ _ _ => .inl rfl, fun _ _ _ _ _ => .inl rfl, fun _ _ _ _ _ _ _ _ _ _ => .inl rfl, fun _ _ _ _ => .inl rfl⟩
section
theorem evL_le {ev ev' : IE → LS → LH → Res Val} (g : ∀ i sl h, Lb (ev i sl h) (ev' i sl h)) : ∀ (is : List IE) (sl : LS) (h : LH), Lb (evL ev is sl h) (evL ev' is sl h)
  | [], _, _ => .inr rfl
  | i :: is, sl, h => (g i sl h).bind fun v h1 => (evL_le g is sl h1).bind fun vs h2 => .inr rfl
theorem evAn_le {ev ev' : IE → LS → LH → Res Val} (g : ∀ i sl h, Lb (ev i sl h) (ev' i sl h)) : ∀ (is : List IE) (sl : LS) (h : LH), Lb (evAn ev is sl h) (evAn ev' is sl h)
  | [], _, _ => .inr rfl
  | [i], sl, h => g i sl h
  | i :: j :: is, sl, h => (g i sl h).bind fun v h1 => by
    split
    · exact evAn_le g (j :: is) sl h1
    · exact .inr rfl
    · exact .inr rfl
theorem evOr_le {ev ev' : IE → LS → LH → Res Val} (g : ∀ i sl h, Lb (ev i sl h) (ev' i sl h)) : ∀ (is : List IE) (sl : LS) (h : LH), Lb (evOr ev is sl h) (evOr ev' is sl h)
  | [], _, _ => .inr rfl
  | [i], sl, h => g i sl h
  | i :: j :: is, sl, h => (g i sl h).bind fun v h1 => by
    split
    · exact .inr rfl
    · exact evOr_le g (j :: is) sl h1
    · exact .inr rfl
theorem tsAn_le {ev ev' : IE → LS → LH → Res Bool} (g : ∀ i sl h, Lb (ev i sl h) (ev' i sl h)) : ∀ (is : List IE) (sl : LS) (h : LH), Lb (tsAn ev is sl h) (tsAn ev' is sl h)
  | [], _, _ => .inr rfl
  | [i], sl, h => g i sl h
  | i :: j :: is, sl, h => (g i sl h).bind fun v h1 => by
    cases v with
    | true => exact tsAn_le g (j :: is) sl h1
    | false => exact .inr rfl
theorem tsOr_le {ev ev' : IE → LS → LH → Res Bool} (g : ∀ i sl h, Lb (ev i sl h) (ev' i sl h)) : ∀ (is : List IE) (sl : LS) (h : LH), Lb (tsOr ev is sl h) (tsOr ev' is sl h)
  | [], _, _ => .inr rfl
  | [i], sl, h => g i sl h
  | i :: j :: is, sl, h => (g i sl h).bind fun v h1 => by
    cases v with
    | true => exact .inr rfl
    | false => exact tsOr_le g (j :: is) sl h1
theorem tsIf_le {ev ev' : IE → LS → LH → Res Bool} (g : ∀ i sl h, Lb (ev i sl h) (ev' i sl h)) : ∀ (is : List IE) (sl : LS) (h : LH), Lb (tsIf ev is sl h) (tsIf ev' is sl h)
  | [], _, _ => .inr rfl
  | [i], sl, h => g i sl h
  | _ :: _ :: _, _, _ => .inr rfl
theorem calm_le {α : Type} {x y : Res α} (a : Lb x y) : Lb (calm x) (calm y) := by
  rcases a with rfl | rfl
  · exact .inl rfl
  · exact .inr rfl
theorem s1_le {k : Nat} {r q : EV} (g : Le k r q) (d : Nat) (st : IS) (sl : LS) (h : LH) : LbS (stS1 r d st sl h) (stS1 q (d + k) st sl h) := by
  cases st with
  | ex e => exact LbS.ofR (g.e d e sl h) fun v h1 => .inr rfl
  | asg tg e => exact LbS.ofR (g.e d e sl h) fun v h1 => .inr rfl
  | sub o i e => exact LbS.ofR (g.e d e sl h) fun v h1 => LbS.ofR (g.e d o sl h1) fun v h2 => LbS.ofR (g.e d i sl h2) fun v h3 => .inr rfl
  | ret o =>
    cases o with
    | none => exact .inr rfl
    | some e => exact LbS.ofR (g.e d e sl h) fun v h1 => .inr rfl
  | iff c a b =>
    refine LbS.ofRB (g.t d c sl h) fun v h1 => ?_
    cases v with
    | true => exact g.s d a sl h1
    | false => exact g.s d b sl h1
  | for_ tg k' es body =>
    refine LbS.ofRL (evL_le (g.e d) es sl h) fun vs h1 => ?_
    cases mkSrc k' vs h1 with
    | none => exact .inr rfl
    | some s => exact g.f d tg body s 0 sl h1
  | whl c body => exact g.w d c body sl h
  | brk => exact .inr rfl
  | cnt => exact .inr rfl
  | pas => exact .inr rfl
  | nev => exact .inr rfl
theorem le_next {k : Nat} {r q : EV} (G : Prg) (g : Le k r q) : Le k (EV.next G r) (EV.next G q) := by
  refine ⟨fun d i sl h => ?_, fun d i sl h => ?_, fun d b sl h => ?_, fun d tg b s i sl h => ?_, fun d c b sl h => ?_, fun d tg ifs el ow s i D sl h => ?_, fun d j vs h => ?_⟩
  · show Lb (stE G r d i sl h) (stE G q (d + k) i sl h)
    have L := evL_le (ev := r.e d) (ev' := q.e (d + k)) (g.e d)
    cases i with
    | cst v => exact .inr rfl
    | var j => exact .inr rfl
    | bin op a b => exact (g.e d a sl h).bind fun v h1 => (g.e d b sl h1).bind fun w h2 => .inr rfl
    | neg a => exact (g.e d a sl h).bind fun v h1 => .inr rfl
    | cmp op a b => exact (g.e d a sl h).bind fun v h1 => (g.e d b sl h1).bind fun w h2 => .inr rfl
    | chn op op' a b c =>
      exact (g.e d a sl h).bind fun v h1 => (g.e d b sl h1).bind fun w h2 => (Lb.rfl' _).bind fun z h3 => by
        unfold chnK
        split
        · exact (g.e d c sl h3).bind fun u h4 => .inr rfl
        · exact .inr rfl
        · exact .inr rfl
    | nt a => exact (g.e d a sl h).bind fun v h1 => .inr rfl
    | an es => exact evAn_le (g.e d) es sl h
    | orr es => exact evOr_le (g.e d) es sl h
    | ife c a b =>
      exact (g.t d c sl h).bind fun v h1 => by
        cases v with
        | true => exact g.e d a sl h1
        | false => exact g.e d b sl h1
    | tp es => exact (L es sl h).bind fun v h1 => .inr rfl
    | ls es => exact (L es sl h).bind fun v h1 => .inr rfl
    | cal f es =>
      cases d with
      | zero => exact .inl rfl
      | succ d =>
        have e : d + 1 + k = (d + k) + 1 := by omega
        rw [e] at L ⊢
        exact (L es sl h).bind fun v h1 => g.c d f v h1
    | blt b es => exact (L es sl h).bind fun v h1 => .inr rfl
    | lrg a => exact (g.e d a sl h).bind fun v h1 => .inr rfl
    | mth m o es =>
      exact (g.e d o sl h).bind fun v h1 => by
        split
        · exact (L es sl h1).bind fun v h2 => .inr rfl
        · exact .inr rfl
    | ix a b => exact (g.e d a sl h).bind fun v h1 => (g.e d b sl h1).bind fun w h2 => .inr rfl
    | sl a lo hi =>
      refine (g.e d a sl h).bind fun v h1 => ?_
      cases lo with
      | none =>
        cases hi with
        | none => exact .inr rfl
        | some u => exact (g.e d u sl h1).bind fun w h2 => .inr rfl
      | some l =>
        cases hi with
        | none => exact (g.e d l sl h1).bind fun w h2 => .inr rfl
        | some u =>
          exact (g.e d l sl h1).bind fun w h2 => by
            unfold intK
            split
            · exact (g.e d u sl h2).bind fun w h2 => .inr rfl
            · exact .inr rfl
    | mkE c e => exact (g.e d e sl h).bind fun v h1 => .inr rfl
    | fld e => exact (g.e d e sl h).bind fun v h1 => .inr rfl
    | isi e c => exact (g.e d e sl h).bind fun v h1 => .inr rfl
    | rpr e => exact (g.e d e sl h).bind fun v h1 => .inr rfl
    | dsp ks es =>
      cases ks with
      | nil => exact .inr rfl
      | cons k' ks => exact (L es sl _).bind fun v h1 => .inr rfl
    | lc tg k' es ifs elt own =>
      refine (L es sl h).bind fun vs h1 => ?_
      cases mkSrc k' vs h1 with
      | none => exact .inr rfl
      | some s => exact g.l d tg ifs elt own s 0 _ _ _
  · show Lb (stT r d i sl h) (stT q (d + k) i sl h)
    cases i with
    | nt a => exact (g.t d a sl h).bind fun v h1 => .inr rfl
    | an es => exact tsAn_le (g.t d) es sl h
    | orr es => exact tsOr_le (g.t d) es sl h
    | cmp op a b => exact (g.e d _ sl h).bind fun v h1 => .inr rfl
    | chn op op' a b c => exact (g.e d _ sl h).bind fun v h1 => .inr rfl
    | ife _ _ _ => exact .inr rfl
    | _ => exact (g.e d _ sl h).bind fun v h1 => .inr rfl
  · show LbS (stS r d b sl h) (stS q (d + k) b sl h)
    have s1 : ∀ st, LbS (stS1 r d st sl h) (stS1 q (d + k) st sl h) := fun st => s1_le g d st sl h
    cases b with
    | nil => exact .inr rfl
    | cons st rest =>
      show LbS (match stS1 r d st sl h with
        | .nx sl1 h1 => r.s d rest sl1 h1
        | x => x) (match stS1 q (d + k) st sl h with
        | .nx sl1 h1 => q.s (d + k) rest sl1 h1
        | x => x)
      rcases s1 st with e | e
      · rw [e]; exact .inl rfl
      · rw [e]
        cases stS1 r d st sl h with
        | nx sl1 h1 => exact g.s d rest sl1 h1
        | _ => exact .inr rfl
  · show LbS (stF r d tg b s i sl h) (stF q (d + k) tg b s i sl h)
    unfold stF
    split
    · exact .inr rfl
    · exact .inr rfl
    · split
      · exact .inr rfl
      · rename_i sl1 _
        rcases g.s d b sl1 h with e | e
        · rw [e]; exact .inl rfl
        · rw [e]
          cases r.s d b sl1 h with
          | nx sl2 h2 => exact g.f d tg b s (i + 1) sl2 h2
          | ct sl2 h2 => exact g.f d tg b s (i + 1) sl2 h2
          | _ => exact .inr rfl
  · show LbS (stW r d c b sl h) (stW q (d + k) c b sl h)
    unfold stW
    refine LbS.ofRB (g.t d c sl h) fun v h1 => ?_
    cases v with
    | false => exact .inr rfl
    | true =>
      dsimp only
      rcases g.s d b sl h1 with e | e
      · rw [e]; exact .inl rfl
      · rw [e]
        cases r.s d b sl h1 with
        | nx sl2 h2 => exact g.w d c b sl2 h2
        | ct sl2 h2 => exact g.w d c b sl2 h2
        | _ => exact .inr rfl
  · show Lb (stL r d tg ifs el ow s i D sl h) (stL q (d + k) tg ifs el ow s i D sl h)
    unfold stL
    split
    · exact .inr rfl
    · exact .inr rfl
    · split
      · exact .inr rfl
      · rename_i sl1 _
        refine (calm_le (tsIf_le (g.t d) ifs sl1 h)).bind fun b h1 => ?_
        cases b with
        | false => exact g.l d tg ifs el ow s (i + 1) D sl h1
        | true =>
          refine (calm_le (g.e d el sl1 h1)).bind fun y h2 => ?_
          split
          · split
            · exact g.l d tg ifs el ow s (i + 1) D sl _
            · exact .inr rfl
          · exact .inr rfl
  · show Lb (stC G r d j vs h) (stC G q (d + k) j vs h)
    unfold stC
    split
    · exact .inr rfl
    · rename_i D _
      split
      · exact .inr rfl
      · rcases g.s d D.body (vs.map some ++ List.replicate (D.n - vs.length) none) h with e | e
        · rw [e]; exact .inl rfl
        · rw [e]; exact .inr rfl
theorem run_le (G : Prg) (k m : Nat) : ∀ n, Le k (run G n) (run G (n + m))
  | 0 => le_none k _
  | n + 1 => by
    have e : n + 1 + m = (n + m) + 1 := by omega
    rw [e]
    exact le_next G (run_le G k m n)
/-- more fuel and depth -/
theorem more {G : Prg} {n n' d d' j : Nat} {vs : List Val} {h h1 : LH} {v : Val} (e : (run G n).c d j vs h = .ok v h1) (hn : n ≤ n') (hd : d ≤ d') : (run G n').c d' j vs h = .ok v h1 := by
  obtain ⟨m, rfl⟩ := Nat.exists_eq_add_of_le hn
  obtain ⟨k, rfl⟩ := Nat.exists_eq_add_of_le hd
  rcases (run_le G k m n).c d j vs h with z | z
  · rw [e] at z; cases z
  · rw [z, e]
end
end Mi

set_option Elab.async false
set_option linter.all false
set_option maxRecDepth 100000
set_option maxHeartbeats 1000000
/-! W1: what a run has to bring, backwards (wishes of the evaluator's own runs). -/
namespace Mi
open PySem L2
abbrev EP := Str → Val → LH → Prop
def Hd {α : Type} (r : Res α) (Q : α → LH → Prop) (E : EP) : Prop := match r with
  | .ok a h => Q a h
  | .exc c v h => E c v h
  | .bad => False
def HdS (x : RsS) (K : RsS → Prop) : Prop := match x with
  | .bad => False
  | .nx sl h => K (.nx sl h)
  | .rt v h => K (.rt v h)
  | .bk sl h => K (.bk sl h)
  | .ct sl h => K (.ct sl h)
  | .exc c v sl h => K (.exc c v sl h)
theorem HdS.of {x : RsS} {K : RsS → Prop} (hx : x ≠ .bad) (k : K x) : HdS x K := by
  cases x with
  | bad => exact absurd rfl hx
  | nx _ _ => exact k
  | rt _ _ => exact k
  | bk _ _ => exact k
  | ct _ _ => exact k
  | exc _ _ _ _ => exact k
theorem HdS.nb {x : RsS} {K : RsS → Prop} (k : HdS x K) : x ≠ .bad ∧ K x := by
  cases x with
  | bad => exact k.elim
  | nx _ _ => exact ⟨(fun z => by cases z), k⟩
  | rt _ _ => exact ⟨(fun z => by cases z), k⟩
  | bk _ _ => exact ⟨(fun z => by cases z), k⟩
  | ct _ _ => exact ⟨(fun z => by cases z), k⟩
  | exc _ _ _ _ => exact ⟨(fun z => by cases z), k⟩
theorem HdS.mono {x : RsS} {K K' : RsS → Prop} (k : HdS x K) (m : ∀ y, K y → K' y) : HdS x K' := .of k.nb.1 (m _ k.nb.2)
theorem Hd.mono {α : Type} {r : Res α} {Q Q' : α → LH → Prop} {E E' : EP} (k : Hd r Q E) (m : ∀ v h, Q v h → Q' v h) (m2 : ∀ c v h, E c v h → E' c v h) : Hd r Q' E' := by
  cases r with
  | bad => exact k
  | ok v h => exact m _ _ k
  | exc c v h => exact m2 _ _ _ k
/-! ### families that grow with the fuel -/
def Mon {α : Type} (r : Nat → Res α) : Prop := ∀ n m, n ≤ m → Lb (r n) (r m)
def MonS (r : Nat → RsS) : Prop := ∀ n m, n ≤ m → LbS (r n) (r m)
theorem Mon.const {α : Type} (x : Res α) : Mon fun _ => x := fun _ _ _ => .inr rfl
theorem MonS.const (x : RsS) : MonS fun _ => x := fun _ _ _ => .inr rfl
theorem Mon.up {α : Type} {r : Nat → Res α} (m : Mon r) {n n' : Nat} {Q : α → LH → Prop} {E : EP} (k : Hd (r n) Q E) (hn : n ≤ n') : Hd (r n') Q E ∧ r n' = r n := by
  rcases m n n' hn with z | z
  · rw [z] at k; exact k.elim
  · rw [z]; exact ⟨k, rfl⟩
theorem MonS.up {r : Nat → RsS} (m : MonS r) {n n' : Nat} {K : RsS → Prop} (k : HdS (r n) K) (hn : n ≤ n') : HdS (r n') K ∧ r n' = r n := by
  rcases m n n' hn with z | z
  · rw [z] at k; exact k.elim
  · rw [z]; exact ⟨k, rfl⟩
theorem Mon.bind {α β : Type} {r : Nat → Res α} {F : Nat → α → LH → Res β} (m : Mon r) (f : ∀ v h, Mon fun n => F n v h) : Mon fun n => (r n).bind (F n) := fun n k hn => Lb.bind (m n k hn) fun v h => f v h n k hn
theorem comb {α β : Type} {r : Nat → Res α} {F : Nat → α → LH → Res β} {Q : β → LH → Prop} {E : EP} (m : Mon r) (f : ∀ v h, Mon fun n => F n v h) (k : ∃ n, Hd (r n) (fun v h => ∃ n, Hd (F n v h) Q E) E) : ∃ n, Hd ((r n).bind (F n)) Q E := by
  obtain ⟨n, k⟩ := k
  cases e : r n with
  | bad => rw [e] at k; exact k.elim
  | exc c v h =>
    refine ⟨n, ?_⟩
    rw [e] at k ⊢
    exact k
  | ok v h =>
    have k0 := k
    rw [e] at k
    obtain ⟨j, k⟩ := k
    refine ⟨max n j, ?_⟩
    rw [(m.up k0 (Nat.le_max_left n j)).2, e]
    exact ((f v h).up k (Nat.le_max_right n j)).1
theorem combS {α : Type} {r : Nat → Res α} {F : Nat → α → LH → RsS} {O : Res α → (α → LH → RsS) → RsS} {K : RsS → Prop} {X : EP} (m : Mon r) (f : ∀ v h, MonS fun n => F n v h)
    (o1 : ∀ v h g, O (.ok v h) g = g v h) (o2 : ∀ c v h g, X c v h → HdS (O (.exc c v h) g) K) (k : ∃ n, Hd (r n) (fun v h => ∃ n, HdS (F n v h) K) X) : ∃ n, HdS (O (r n) (F n)) K := by
  obtain ⟨n, k⟩ := k
  cases e : r n with
  | bad => rw [e] at k; exact k.elim
  | exc c v h =>
    refine ⟨n, ?_⟩
    rw [e] at k ⊢
    exact o2 c v h _ k
  | ok v h =>
    have k0 := k
    rw [e] at k
    obtain ⟨j, k⟩ := k
    refine ⟨max n j, ?_⟩
    rw [(m.up k0 (Nat.le_max_left n j)).2, e, o1]
    exact ((f v h).up k (Nat.le_max_right n j)).1
section
variable (G : Prg) (d : Nat)
def XE (ie : IE) (sl : LS) (h : LH) (Q : Val → LH → Prop) (E : EP) : Prop := ∃ n, Hd ((run G n).e d ie sl h) Q E
def XT (ie : IE) (sl : LS) (h : LH) (Q : Bool → LH → Prop) (E : EP) : Prop := ∃ n, Hd ((run G n).t d ie sl h) Q E
def XL (es : List IE) (sl : LS) (h : LH) (Q : List Val → LH → Prop) (E : EP) : Prop := ∃ n, Hd (evL ((run G n).e d) es sl h) Q E
def XC (k : Nat) (vs : List Val) (h : LH) (Q : Val → LH → Prop) (E : EP) : Prop := ∃ n, Hd ((run G n).c d k vs h) Q E
def XLc (tg : ITg) (ifs : List IE) (el : IE) (ow : List Nat) (s : Src) (i D : Nat) (sl : LS) (h : LH) (Q : Val → LH → Prop) (E : EP) : Prop := ∃ n, Hd ((run G n).l d tg ifs el ow s i D sl h) Q E
def XS (b : List IS) (sl : LS) (h : LH) (K : RsS → Prop) : Prop := ∃ n, HdS ((run G n).s d b sl h) K
def X1 (st : IS) (sl : LS) (h : LH) (K : RsS → Prop) : Prop := ∃ n, HdS (stS1 (run G n) d st sl h) K
def XF (tg : ITg) (b : List IS) (s : Src) (i : Nat) (sl : LS) (h : LH) (K : RsS → Prop) : Prop := ∃ n, HdS ((run G n).f d tg b s i sl h) K
def XW (c : IE) (b : List IS) (sl : LS) (h : LH) (K : RsS → Prop) : Prop := ∃ n, HdS ((run G n).w d c b sl h) K
end
section
variable {G : Prg} {d : Nat} {sl : LS} {h : LH}
theorem mE {i : IE} : Mon fun n => (run G n).e d i sl h := fun n m hn => by
  obtain ⟨k, rfl⟩ := Nat.exists_eq_add_of_le hn
  exact (run_le G 0 k n).e d i sl h
theorem mT {i : IE} : Mon fun n => (run G n).t d i sl h := fun n m hn => by
  obtain ⟨k, rfl⟩ := Nat.exists_eq_add_of_le hn
  exact (run_le G 0 k n).t d i sl h
theorem mC {k : Nat} {vs : List Val} : Mon fun n => (run G n).c d k vs h := fun n m hn => by
  obtain ⟨j, rfl⟩ := Nat.exists_eq_add_of_le hn
  exact (run_le G 0 j n).c d k vs h
theorem mLc {tg : ITg} {ifs : List IE} {el : IE} {ow : List Nat} {s : Src} {i D : Nat} : Mon fun n => (run G n).l d tg ifs el ow s i D sl h := fun n m hn => by
  obtain ⟨j, rfl⟩ := Nat.exists_eq_add_of_le hn
  exact (run_le G 0 j n).l d tg ifs el ow s i D sl h
theorem mL {es : List IE} : Mon fun n => evL ((run G n).e d) es sl h := fun n m hn => by
  obtain ⟨j, rfl⟩ := Nat.exists_eq_add_of_le hn
  exact evL_le (fun i sl h => (run_le G 0 j n).e d i sl h) es sl h
theorem mS {b : List IS} : MonS fun n => (run G n).s d b sl h := fun n m hn => by
  obtain ⟨j, rfl⟩ := Nat.exists_eq_add_of_le hn
  exact (run_le G 0 j n).s d b sl h
theorem mF {tg : ITg} {b : List IS} {s : Src} {i : Nat} : MonS fun n => (run G n).f d tg b s i sl h := fun n m hn => by
  obtain ⟨j, rfl⟩ := Nat.exists_eq_add_of_le hn
  exact (run_le G 0 j n).f d tg b s i sl h
theorem mW {c : IE} {b : List IS} : MonS fun n => (run G n).w d c b sl h := fun n m hn => by
  obtain ⟨j, rfl⟩ := Nat.exists_eq_add_of_le hn
  exact (run_le G 0 j n).w d c b sl h
theorem m1 {st : IS} : MonS fun n => stS1 (run G n) d st sl h := fun n m hn => by
  obtain ⟨j, rfl⟩ := Nat.exists_eq_add_of_le hn
  exact s1_le (run_le G 0 j n) d st sl h
end
/-! ### the wishes, by the text -/
abbrev WE := LS → LH → (Val → LH → Prop) → EP → Prop
abbrev WT := LS → LH → (Bool → LH → Prop) → EP → Prop
abbrev WL := LS → LH → (List Val → LH → Prop) → EP → Prop
def ttr (e : WE) : WT := fun sl h Q E => e sl h (fun v h1 => match truO v h1 with
  | some b => Q b h1
  | none => False) E
def tbl (e : WE) : WT := fun sl h Q E => e sl h (fun v h1 => match v with
  | .bl b => Q b h1
  | _ => False) E
section
variable (G : Prg) (d : Nat)
mutual
/-- an expression's wish, and that of it as a test -/
def w : IE → WE × WT
  | .cst v => let e : WE := fun sl h Q E => noLoc v = true ∧ Q v h
    (e, ttr e)
  | .var i => let e : WE := fun sl h Q E => (match sl[i]? with
      | some (some v) => Q v h
      | _ => False)
    (e, ttr e)
  | .bin op a b => let e : WE := fun sl h Q E => (w a).1 sl h (fun v h1 => (w b).1 sl h1 (fun w h2 => Hd (vBin op v w h2) Q E) E) E
    (e, ttr e)
  | .neg a => let e : WE := fun sl h Q E => (w a).1 sl h (fun v h1 => Hd (vNeg v h1) Q E) E
    (e, ttr e)
  | .cmp op a b => let e : WE := fun sl h Q E => (w a).1 sl h (fun v h1 => (w b).1 sl h1 (fun w h2 => Hd (vCmp op v w h2) Q E) E) E
    (e, tbl e)
  | .chn op op' a b c => let e : WE := fun sl h Q E => (w a).1 sl h (fun v h1 => (w b).1 sl h1 (fun y h2 => Hd (vCmp op v y h2) (fun z h3 => match z with
      | .bl true => (w c).1 sl h3 (fun u h4 => Hd (vCmp op' y u h4) Q E) E
      | .bl false => Q (.bl false) h3
      | _ => False) E) E) E
    (e, tbl e)
  | .nt a => (fun sl h Q E => (w a).1 sl h (fun v h1 => match v with
      | .bl b => Q (.bl (!b)) h1
      | _ => False) E, fun sl h Q E => (w a).2 sl h (fun b h1 => Q (!b) h1) E)
  | .an es => (wAn es, tAn es)
  | .orr es => (wOr es, tOr es)
  | .ife c a b => (fun sl h Q E => (w c).2 sl h (fun x h1 => match x with
      | true => (w a).1 sl h1 Q E
      | false => (w b).1 sl h1 Q E) E, fun _ _ _ _ => False)
  | .tp es => let e : WE := fun sl h Q E => wL es sl h (fun vs h1 => vs.length ≤ sizeLine ∧ Q (.tup vs) h1) E
    (e, ttr e)
  | .ls es => let e : WE := fun sl h Q E => wL es sl h (fun vs h1 => vs.length ≤ sizeLine ∧ Q (.loc h1.length) (h1 ++ [.lst vs])) E
    (e, ttr e)
  | .cal f es => let e : WE := fun sl h Q E => 1 ≤ d ∧ wL es sl h (fun vs h1 => XC G (d - 1) f vs h1 Q E) E
    (e, ttr e)
  | .blt b es => let e : WE := fun sl h Q E => wL es sl h (fun vs h1 => Hd (vBi b vs h1) Q E) E
    (e, ttr e)
  | .lrg a => let e : WE := fun sl h Q E => (w a).1 sl h (fun v h1 => match v with
      | .int n => (-(2 ^ 62) ≤ n ∧ n < 2 ^ 62 ∧ n.toNat ≤ 2 ^ 24) ∧ Q (.loc h1.length) (h1 ++ [.lst ((List.range n.toNat).map fun (i : Nat) => Val.int (i : Int))])
      | _ => False) E
    (e, ttr e)
  | .mth m o es => let e : WE := fun sl h Q E => (w o).1 sl h (fun v h1 => okTy m v h1 = true ∧ wL es sl h1 (fun vs h2 => Hd (vMt m v vs h2) Q E) E) E
    (e, ttr e)
  | .ix a b => let e : WE := fun sl h Q E => (w a).1 sl h (fun v h1 => (w b).1 sl h1 (fun w h2 => Hd (vIx v w h2) Q E) E) E
    (e, ttr e)
  | .sl a lo hi => let e : WE := (match lo, hi with
      | none, none => fun sl h Q E => (w a).1 sl h (fun v h1 => Hd (vSl v none none h1) Q E) E
      | some l, none => fun sl h Q E => (w a).1 sl h (fun v h1 => (w l).1 sl h1 (fun x h2 => Hd (slI1 v x h2) Q E) E) E
      | none, some u => fun sl h Q E => (w a).1 sl h (fun v h1 => (w u).1 sl h1 (fun x h2 => Hd (slI2 v x h2) Q E) E) E
      | some l, some u => fun sl h Q E => (w a).1 sl h (fun v h1 => (w l).1 sl h1 (fun x h2 => match x with
        | .int i => (w u).1 sl h2 (fun y h3 => match y with
          | .int j => Hd (vSl v (some i) (some j) h3) Q E
          | _ => False) E
        | _ => False) E) E)
    (e, ttr e)
  | .mkE c a => let e : WE := fun sl h Q E => (w a).1 sl h (fun v h1 => Q (.err c v) h1) E
    (e, ttr e)
  | .fld a => let e : WE := fun sl h Q E => (w a).1 sl h (fun v h1 => Hd (vFld G.errs v h1) Q E) E
    (e, ttr e)
  | .isi a c => let e : WE := fun sl h Q E => (w a).1 sl h (fun v h1 => Hd (vIsi G.isiT G.errs c v h1) Q E) E
    (e, ttr e)
  | .rpr a => let e : WE := fun sl h Q E => (w a).1 sl h (fun v h1 => Hd (vRep v h1) Q E) E
    (e, ttr e)
  | .dsp ks es => let e : WE := (match ks with
      | [] => fun sl h Q E => Q (.loc h.length) (h ++ [.dK []])
      | k :: ks => fun sl h Q E => wL es sl (h ++ [.dK []]) (fun vs h1 => match h1[h.length]? with
        | some (.dK []) => (decide ((k :: ks).length = vs.length) && decide ((k :: ks).length ≤ 15)) = true ∧ Q (.loc h.length) (h1.set h.length (.dK (putAll [] (k :: ks) vs)))
        | _ => False) E)
    (e, ttr e)
  | .lc tg k es ifs el ow => let e : WE := fun sl h Q E => wL es sl h (fun vs h1 => ∃ s, mkSrc k vs h1 = some s ∧ XLc G d tg ifs el ow s 0 h1.length (wipeL sl ow) (h1 ++ [.lst []]) Q E) E
    (e, ttr e)
def wL : List IE → WL
  | [] => fun sl h Q E => Q [] h
  | a :: es => fun sl h Q E => (w a).1 sl h (fun v h1 => wL es sl h1 (fun vs h2 => Q (v :: vs) h2) E) E
def wAn : List IE → WE
  | [] => fun _ _ _ _ => False
  | a :: es => match es with
    | [] => (w a).1
    | _ :: _ => fun sl h Q E => (w a).1 sl h (fun v h1 => match v with
      | .bl true => wAn es sl h1 Q E
      | .bl false => Q (.bl false) h1
      | _ => False) E
def wOr : List IE → WE
  | [] => fun _ _ _ _ => False
  | a :: es => match es with
    | [] => (w a).1
    | _ :: _ => fun sl h Q E => (w a).1 sl h (fun v h1 => match v with
      | .bl true => Q (.bl true) h1
      | .bl false => wOr es sl h1 Q E
      | _ => False) E
def tAn : List IE → WT
  | [] => fun _ _ _ _ => False
  | a :: es => match es with
    | [] => (w a).2
    | _ :: _ => fun sl h Q E => (w a).2 sl h (fun v h1 => match v with
      | true => tAn es sl h1 Q E
      | false => Q false h1) E
def tOr : List IE → WT
  | [] => fun _ _ _ _ => False
  | a :: es => match es with
    | [] => (w a).2
    | _ :: _ => fun sl h Q E => (w a).2 sl h (fun v h1 => match v with
      | true => Q true h1
      | false => tOr es sl h1 Q E) E
end
end
end Mi

set_option Elab.async false
set_option linter.all false
set_option maxRecDepth 100000
set_option maxHeartbeats 1000000
/-! W2: the wishes hold of the runs. -/
namespace Mi
open PySem L2
section
variable {G : Prg} {d : Nat} {sl : LS} {h : LH} {Q : Val → LH → Prop} {E : EP}
theorem x_e {ie : IE} (k : ∃ n, Hd (stE G (run G n) d ie sl h) Q E) : XE G d ie sl h Q E := k.elim fun n k => ⟨n + 1, k⟩
theorem x_t {ie : IE} {Q : Bool → LH → Prop} (k : ∃ n, Hd (stT (run G n) d ie sl h) Q E) : XT G d ie sl h Q E := k.elim fun n k => ⟨n + 1, k⟩
/-- a wish, stronger -/
theorem XE.mono {ie : IE} {Q' : Val → LH → Prop} {E' : EP} (k : XE G d ie sl h Q E) (m : ∀ v h, Q v h → Q' v h) (m2 : ∀ c v h, E c v h → E' c v h) : XE G d ie sl h Q' E' := k.elim fun n k => ⟨n, k.mono m m2⟩
theorem XL.mono {es : List IE} {Q Q' : List Val → LH → Prop} {E' : EP} (k : XL G d es sl h Q E) (m : ∀ v h, Q v h → Q' v h) (m2 : ∀ c v h, E c v h → E' c v h) : XL G d es sl h Q' E' := k.elim fun n k => ⟨n, k.mono m m2⟩
theorem XT.mono {ie : IE} {Q Q' : Bool → LH → Prop} {E' : EP} (k : XT G d ie sl h Q E) (m : ∀ v h, Q v h → Q' v h) (m2 : ∀ c v h, E c v h → E' c v h) : XT G d ie sl h Q' E' := k.elim fun n k => ⟨n, k.mono m m2⟩
theorem XC.mono {k : Nat} {vs : List Val} {Q' : Val → LH → Prop} {E' : EP} (x : XC G d k vs h Q E) (m : ∀ v h, Q v h → Q' v h) (m2 : ∀ c v h, E c v h → E' c v h) : XC G d k vs h Q' E' := x.elim fun n k => ⟨n, k.mono m m2⟩
theorem XC.monoQ {k : Nat} {vs : List Val} {Q' : Val → LH → Prop} (x : XC G d k vs h Q E) (m : ∀ v h, Q v h → Q' v h) : XC G d k vs h Q' E := x.mono m fun _ _ _ z => z
theorem pureE {r : Res Val} (k : Hd r Q E) : ∃ _ : Nat, Hd r Q E := ⟨0, k⟩
/-- a test by its value -/
theorem tt_ok {ie : IE} {Q : Bool → LH → Prop} (hs : ∀ r : EV, stT r d ie sl h = (r.e d ie sl h).bind fun v h1 => match truO v h1 with
    | some b => .ok b h1
    | none => .bad) (k : XE G d ie sl h (fun v h1 => match truO v h1 with
    | some b => Q b h1
    | none => False) E) : XT G d ie sl h Q E := by
  refine x_t ?_
  simp only [hs]
  refine comb mE (fun v h => Mon.const _) ?_
  refine k.mono (fun v h1 z => ⟨0, ?_⟩) fun _ _ _ z => z
  split at z
  · rename_i e; exact z
  · exact z.elim
theorem tb_ok {ie : IE} {Q : Bool → LH → Prop} (hs : ∀ r : EV, stT r d ie sl h = (r.e d ie sl h).bind fun v h1 => match v with
    | .bl b => .ok b h1
    | _ => .bad) (k : XE G d ie sl h (fun v h1 => match v with
    | .bl b => Q b h1
    | _ => False) E) : XT G d ie sl h Q E := by
  refine x_t ?_
  simp only [hs]
  refine comb mE (fun v h => Mon.const _) ?_
  refine k.mono (fun v h1 z => ⟨0, ?_⟩) fun _ _ _ z => z
  split at z
  · exact z
  · exact z.elim
end
section
variable (G : Prg) (d : Nat)
def OkE (ie : IE) : Prop := ∀ sl h Q E, (w G d ie).1 sl h Q E → XE G d ie sl h Q E
def OkT (ie : IE) : Prop := ∀ sl h Q E, (w G d ie).2 sl h Q E → XT G d ie sl h Q E
def OkL (es : List IE) : Prop := ∀ sl h Q E, wL G d es sl h Q E → XL G d es sl h Q E
end
section
variable {G : Prg} {d : Nat}
theorem ok_tru {ie : IE} (k : OkE G d ie) (e2 : (w G d ie).2 = ttr (w G d ie).1) (hs : ∀ (r : EV) (sl : LS) (h : LH), stT r d ie sl h = (r.e d ie sl h).bind fun v h1 => match truO v h1 with
    | some b => .ok b h1
    | none => .bad) : OkE G d ie ∧ OkT G d ie := ⟨k, fun sl h Q E z => tt_ok (fun r => hs r sl h) (k sl h _ E (by rw [e2] at z; exact z))⟩
theorem ok_bl {ie : IE} (k : OkE G d ie) (e2 : (w G d ie).2 = tbl (w G d ie).1) (hs : ∀ (r : EV) (sl : LS) (h : LH), stT r d ie sl h = (r.e d ie sl h).bind fun v h1 => match v with
    | .bl b => .ok b h1
    | _ => .bad) : OkE G d ie ∧ OkT G d ie := ⟨k, fun sl h Q E z => tb_ok (fun r => hs r sl h) (k sl h _ E (by rw [e2] at z; exact z))⟩
/-- one part, then a value -/
theorem ok_un {ie a : IE} {f : Val → LH → Res Val} (ka : OkE G d a) (hs : ∀ (n : Nat) (sl : LS) (h : LH), stE G (run G n) d ie sl h = ((run G n).e d a sl h).bind f) {sl : LS} {h : LH} {Q : Val → LH → Prop} {E : EP} (k : (w G d a).1 sl h (fun v h1 => Hd (f v h1) Q E) E) : XE G d ie sl h Q E := by
  refine x_e ?_
  simp only [hs]
  refine comb mE (fun v h => Mon.const _) ?_
  exact (ka sl h _ E k).mono (fun v h1 z => ⟨0, z⟩) fun _ _ _ z => z
theorem ok_bi {ie a b : IE} {f : Val → Val → LH → Res Val} (ka : OkE G d a) (kb : OkE G d b) (hs : ∀ (n : Nat) (sl : LS) (h : LH), stE G (run G n) d ie sl h = ((run G n).e d a sl h).bind fun v h1 => ((run G n).e d b sl h1).bind fun w h2 => f v w h2) {sl : LS} {h : LH} {Q : Val → LH → Prop} {E : EP}
    (k : (w G d a).1 sl h (fun v h1 => (w G d b).1 sl h1 (fun y h2 => Hd (f v y h2) Q E) E) E) : XE G d ie sl h Q E := by
  refine x_e ?_
  simp only [hs]
  refine comb mE (fun v h => Mon.bind mE fun _ _ => Mon.const _) ?_
  refine (ka sl h _ E k).mono (fun v h1 z => ?_) fun _ _ _ z => z
  refine comb mE (fun v h => Mon.const _) ?_
  exact (kb sl h1 _ E z).mono (fun v h1 z => ⟨0, z⟩) fun _ _ _ z => z
theorem ok_li {ie : IE} {es : List IE} {f : Nat → List Val → LH → Res Val} (kl : OkL G d es) (hs : ∀ (n : Nat) (sl : LS) (h : LH), stE G (run G n) d ie sl h = (evL ((run G n).e d) es sl h).bind (f n)) {sl : LS} {h : LH} (mf : ∀ v h, Mon fun n => f n v h) {Q : Val → LH → Prop} {E : EP} {P : List Val → LH → Prop}
    (hP : ∀ v h1, P v h1 → ∃ n, Hd (f n v h1) Q E) (k : wL G d es sl h P E) : XE G d ie sl h Q E := by
  refine x_e ?_
  simp only [hs]
  refine comb mL mf ?_
  exact (kl sl h _ E k).mono (fun v h1 z => hP v h1 z) fun _ _ _ z => z
theorem hd_chk {b : Bool} {r : Res Val} {Q : Val → LH → Prop} {E : EP} (hb : b = true) (k : Hd r Q E) : Hd (chk b r) Q E := by rw [hb]; exact k
mutual
theorem ok_w : ∀ ie, OkE G d ie ∧ OkT G d ie
  | .cst v => ok_tru (fun sl h Q E k => by
      simp only [w] at k
      exact x_e ⟨0, hd_chk k.1 k.2⟩) (by simp only [w]) fun _ _ _ => rfl
  | .var i => ok_tru (fun sl h Q E k => by
      simp only [w] at k
      refine x_e ⟨0, ?_⟩
      show Hd (match sl[i]? with
        | some (some v) => Res.ok v h
        | _ => .bad) Q E
      split at k
      · rename_i v e
        first
          | exact k
          | (rw [e]; exact k)
      · exact k.elim) (by simp only [w]) fun _ _ _ => rfl
  | .bin op a b => ok_tru (fun sl h Q E k => by
      simp only [w] at k
      exact ok_bi (ok_w a).1 (ok_w b).1 (f := fun v y h2 => vBin op v y h2) (fun n sl h => rfl) k) (by simp only [w]) fun _ _ _ => rfl
  | .neg a => ok_tru (fun sl h Q E k => by
      simp only [w] at k
      exact ok_un (ok_w a).1 (f := fun v h1 => vNeg v h1) (fun n sl h => rfl) k) (by simp only [w]) fun _ _ _ => rfl
  | .cmp op a b => ok_bl (fun sl h Q E k => by
      simp only [w] at k
      exact ok_bi (ok_w a).1 (ok_w b).1 (f := fun v y h2 => vCmp op v y h2) (fun n sl h => rfl) k) (by simp only [w]) fun _ _ _ => rfl
  | .chn op op' a b c => ok_bl (fun sl h Q E k => by
      simp only [w] at k
      have ka := (ok_w a).1
      have kb := (ok_w b).1
      have kc := (ok_w c).1
      have mz : ∀ (y z : Val) (h3 : LH), Mon fun n => chnK z h3 fun h3 => ((run G n).e d c sl h3).bind fun u h4 => vCmp op' y u h4 := by
        intro y z h3 n m hn
        unfold chnK
        split
        · exact Lb.bind (mE _ _ hn) fun _ _ => .inr rfl
        · exact .inr rfl
        · exact .inr rfl
      refine x_e ?_
      show ∃ n, Hd (((run G n).e d a sl h).bind fun v h1 => ((run G n).e d b sl h1).bind fun y h2 => (vCmp op v y h2).bind fun z h3 => chnK z h3 fun h3 => ((run G n).e d c sl h3).bind fun u h4 => vCmp op' y u h4) Q E
      refine comb mE (fun v h => Mon.bind mE fun _ _ => Mon.bind (Mon.const _) fun _ _ => mz _ _ _) ?_
      refine (ka sl h _ E k).mono (fun v h1 k => ?_) fun _ _ _ z => z
      refine comb mE (fun v h => Mon.bind (Mon.const _) fun _ _ => mz _ _ _) ?_
      refine (kb sl h1 _ E k).mono (fun y h2 k => ?_) fun _ _ _ z => z
      refine comb (Mon.const _) (fun v h => mz _ _ _) ⟨0, ?_⟩
      refine k.mono (fun z h3 k => ?_) fun _ _ _ z => z
      split at k
      · refine comb mE (fun v h => Mon.const _) ?_
        exact (kc sl h3 _ E k).mono (fun v h1 z => ⟨0, z⟩) fun _ _ _ z => z
      · exact ⟨0, k⟩
      · exact k.elim) (by simp only [w]) fun _ _ _ => rfl
  | .nt a => by
      refine ⟨fun sl h Q E k => ?_, fun sl h Q E k => ?_⟩
      · simp only [w] at k
        refine x_e ?_
        show ∃ n, Hd (((run G n).e d a sl h).bind fun v h1 => match v with
          | .bl b => .ok (.bl (!b)) h1
          | _ => .bad) Q E
        refine comb mE (fun v h => Mon.const _) ?_
        refine ((ok_w a).1 sl h _ E k).mono (fun v h1 z => ⟨0, ?_⟩) fun _ _ _ z => z
        cases v with
        | bl b => exact z
        | _ => exact z.elim
      · simp only [w] at k
        refine x_t ?_
        show ∃ n, Hd (((run G n).t d a sl h).bind fun b h1 => .ok (!b) h1) Q E
        refine comb mT (fun v h => Mon.const _) ?_
        exact ((ok_w a).2 sl h _ E k).mono (fun v h1 z => ⟨0, z⟩) fun _ _ _ z => z
  | .an es => by
      refine ⟨fun sl h Q E k => ?_, fun sl h Q E k => ?_⟩
      · simp only [w] at k
        exact x_e (ok_an es sl h Q E k)
      · simp only [w] at k
        exact x_t (ok_tan es sl h Q E k)
  | .orr es => by
      refine ⟨fun sl h Q E k => ?_, fun sl h Q E k => ?_⟩
      · simp only [w] at k
        exact x_e (ok_or es sl h Q E k)
      · simp only [w] at k
        exact x_t (ok_tor es sl h Q E k)
  | .ife c a b => by
      refine ⟨fun sl h Q E k => ?_, fun sl h Q E k => by simp only [w] at k⟩
      simp only [w] at k
      refine x_e ?_
      show ∃ n, Hd (((run G n).t d c sl h).bind fun x h1 => match x with
        | true => (run G n).e d a sl h1
        | false => (run G n).e d b sl h1) Q E
      refine comb mT (fun v h => by cases v <;> exact mE) ?_
      refine ((ok_w c).2 sl h _ E k).mono (fun v h1 z => ?_) fun _ _ _ z => z
      cases v with
      | true => exact (ok_w a).1 sl h1 Q E z
      | false => exact (ok_w b).1 sl h1 Q E z
  | .tp es => ok_tru (fun sl h Q E k => by
      simp only [w] at k
      exact ok_li (ok_wl es) (f := fun _ vs h1 => chk (decide (vs.length ≤ sizeLine)) (.ok (.tup vs) h1)) (fun n sl h => rfl) (fun _ _ => Mon.const _) (fun v h1 z => ⟨0, hd_chk (decide_eq_true z.1) z.2⟩) k) (by simp only [w]) fun _ _ _ => rfl
  | .ls es => ok_tru (fun sl h Q E k => by
      simp only [w] at k
      exact ok_li (ok_wl es) (f := fun _ vs h1 => chk (decide (vs.length ≤ sizeLine)) (newL vs h1)) (fun n sl h => rfl) (fun _ _ => Mon.const _) (fun v h1 z => ⟨0, hd_chk (decide_eq_true z.1) z.2⟩) k) (by simp only [w]) fun _ _ _ => rfl
  | .cal f es => ok_tru (fun sl h Q E k => by
      simp only [w] at k
      obtain ⟨hd, k⟩ := k
      have kl := ok_wl es sl h _ E k
      obtain ⟨d, rfl⟩ : ∃ d', d = d' + 1 := ⟨d - 1, by omega⟩
      refine x_e ?_
      show ∃ n, Hd ((evL ((run G n).e (d + 1)) es sl h).bind fun vs h1 => (run G n).c d f vs h1) Q E
      refine comb mL (fun _ _ => mC) ?_
      exact kl.mono (fun v h1 z => z) fun _ _ _ z => z) (by simp only [w]) fun _ _ _ => rfl
  | .blt b es => ok_tru (fun sl h Q E k => by
      simp only [w] at k
      exact ok_li (ok_wl es) (f := fun _ vs h1 => vBi b vs h1) (fun n sl h => rfl) (fun _ _ => Mon.const _) (fun v h1 z => ⟨0, z⟩) k) (by simp only [w]) fun _ _ _ => rfl
  | .lrg a => ok_tru (fun sl h Q E k => by
      simp only [w] at k
      refine x_e ?_
      show ∃ n, Hd (((run G n).e d a sl h).bind fun v h1 => match v with
        | .int n => chk (decide (-(2 ^ 62) ≤ n ∧ n < 2 ^ 62 ∧ n.toNat ≤ 2 ^ 24)) (newL ((List.range n.toNat).map fun (i : Nat) => Val.int (i : Int)) h1)
        | _ => .bad) Q E
      refine comb mE (fun v h => Mon.const _) ?_
      refine ((ok_w a).1 sl h _ E k).mono (fun v h1 z => ⟨0, ?_⟩) fun _ _ _ z => z
      split at z
      · exact hd_chk (decide_eq_true z.1) z.2
      · exact z.elim) (by simp only [w]) fun _ _ _ => rfl
  | .mth m o es => ok_tru (fun sl h Q E k => by
      simp only [w] at k
      refine x_e ?_
      show ∃ n, Hd (((run G n).e d o sl h).bind fun v h1 => match okTy m v h1 with
        | true => (evL ((run G n).e d) es sl h1).bind fun vs h2 => vMt m v vs h2
        | false => .bad) Q E
      refine comb mE (fun v h n n' hn => ?_) ?_
      · split
        · exact Lb.bind (mL _ _ hn) fun _ _ => .inr rfl
        · exact .inr rfl
      · refine ((ok_w o).1 sl h _ E k).mono (fun v h1 z => ?_) fun _ _ _ z => z
        rw [z.1]
        refine comb mL (fun _ _ => Mon.const _) ?_
        exact (ok_wl es sl h1 _ E z.2).mono (fun v h1 z => ⟨0, z⟩) fun _ _ _ z => z) (by simp only [w]) fun _ _ _ => rfl
  | .ix a b => ok_tru (fun sl h Q E k => by
      simp only [w] at k
      exact ok_bi (ok_w a).1 (ok_w b).1 (f := fun v y h2 => vIx v y h2) (fun n sl h => rfl) k) (by simp only [w]) fun _ _ _ => rfl
  | .sl a lo hi => ok_tru (fun sl h Q E k => by
      match lo, hi with
      | none, none =>
        simp only [w] at k
        exact ok_un (ok_w a).1 (f := fun v h1 => vSl v none none h1) (fun n sl h => rfl) k
      | some l, none =>
        simp only [w] at k
        exact ok_bi (ok_w a).1 (ok_w l).1 (f := fun v x h2 => slI1 v x h2) (fun n sl h => rfl) k
      | none, some u =>
        simp only [w] at k
        exact ok_bi (ok_w a).1 (ok_w u).1 (f := fun v x h2 => slI2 v x h2) (fun n sl h => rfl) k
      | some l, some u =>
        simp only [w] at k
        refine x_e ?_
        show ∃ n, Hd (((run G n).e d a sl h).bind fun v h1 => ((run G n).e d l sl h1).bind fun x h2 => intK x fun i => ((run G n).e d u sl h2).bind fun y h3 => intK y fun j => vSl v (some i) (some j) h3) Q E
        have mz : ∀ (v x : Val) (h2 : LH), Mon fun n => intK x fun i => ((run G n).e d u sl h2).bind fun y h3 => intK y fun j => vSl v (some i) (some j) h3 := by
          intro v x h2 n m hn
          unfold intK
          cases x with
          | int i => exact Lb.bind (mE _ _ hn) fun _ _ => .inr rfl
          | _ => exact .inr rfl
        refine comb mE (fun v h => Mon.bind mE fun _ _ => mz _ _ _) ?_
        refine ((ok_w a).1 sl h _ E k).mono (fun v h1 k => ?_) fun _ _ _ z => z
        refine comb mE (fun _ _ => mz _ _ _) ?_
        refine ((ok_w l).1 sl h1 _ E k).mono (fun x h2 k => ?_) fun _ _ _ z => z
        cases x with
        | int i =>
          refine comb mE (fun _ _ => Mon.const _) ?_
          refine ((ok_w u).1 sl h2 _ E k).mono (fun y h3 k => ⟨0, ?_⟩) fun _ _ _ z => z
          cases y with
          | int j => exact k
          | _ => exact k.elim
        | _ => exact k.elim) (by match lo, hi with
        | none, none => simp only [w]
        | some _, none => simp only [w]
        | none, some _ => simp only [w]
        | some _, some _ => simp only [w]) fun _ _ _ => rfl
  | .mkE c a => ok_tru (fun sl h Q E k => by
      simp only [w] at k
      exact ok_un (ok_w a).1 (f := fun v h1 => .ok (.err c v) h1) (fun n sl h => rfl) k) (by simp only [w]) fun _ _ _ => rfl
  | .fld a => ok_tru (fun sl h Q E k => by
      simp only [w] at k
      exact ok_un (ok_w a).1 (f := fun v h1 => vFld G.errs v h1) (fun n sl h => rfl) k) (by simp only [w]) fun _ _ _ => rfl
  | .isi a c => ok_tru (fun sl h Q E k => by
      simp only [w] at k
      exact ok_un (ok_w a).1 (f := fun v h1 => vIsi G.isiT G.errs c v h1) (fun n sl h => rfl) k) (by simp only [w]) fun _ _ _ => rfl
  | .rpr a => ok_tru (fun sl h Q E k => by
      simp only [w] at k
      exact ok_un (ok_w a).1 (f := fun v h1 => vRep v h1) (fun n sl h => rfl) k) (by simp only [w]) fun _ _ _ => rfl
  | .dsp ks es => ok_tru (fun sl h Q E k => by
      cases ks with
      | nil =>
        simp only [w] at k
        exact x_e ⟨0, k⟩
      | cons c ks =>
        simp only [w] at k
        refine x_e ?_
        show ∃ n, Hd ((evL ((run G n).e d) es sl (h ++ [.dK []])).bind fun vs h1 => match h1[h.length]? with
          | some (.dK []) => chk (decide ((c :: ks).length = vs.length) && decide ((c :: ks).length ≤ 15)) (.ok (.loc h.length) (h1.set h.length (.dK (putAll [] (c :: ks) vs))))
          | _ => .bad) Q E
        refine comb mL (fun _ _ => Mon.const _) ?_
        refine (ok_wl es sl _ _ E k).mono (fun v h1 z => ⟨0, ?_⟩) fun _ _ _ z => z
        split at z
        · rename_i e
          first
            | exact hd_chk z.1 z.2
            | (rw [e]; exact hd_chk z.1 z.2)
        · exact z.elim) (by cases ks <;> simp only [w]) fun _ _ _ => rfl
  | .lc tg k es ifs el ow => ok_tru (fun sl h Q E z => by
      simp only [w] at z
      refine x_e ?_
      show ∃ n, Hd ((evL ((run G n).e d) es sl h).bind fun vs h1 => match mkSrc k vs h1 with
        | some s => (run G n).l d tg ifs el ow s 0 h1.length (wipeL sl ow) (h1 ++ [.lst []])
        | none => .bad) Q E
      refine comb mL (fun v h n n' hn => ?_) ?_
      · split
        · exact mLc n n' hn
        · exact .inr rfl
      · refine (ok_wl es sl h _ E z).mono (fun v h1 z => ?_) fun _ _ _ z => z
        obtain ⟨s, e, n, z⟩ := z
        rw [e]
        exact ⟨n, z⟩) (by simp only [w]) fun _ _ _ => rfl
theorem ok_wl : ∀ es, OkL G d es
  | [] => fun sl h Q E k => by
    simp only [wL] at k
    exact ⟨0, k⟩
  | a :: es => fun sl h Q E k => by
    simp only [wL] at k
    show ∃ n, Hd (((run G n).e d a sl h).bind fun v h1 => (evL ((run G n).e d) es sl h1).bind fun vs h2 => .ok (v :: vs) h2) Q E
    refine comb mE (fun v h => Mon.bind mL fun _ _ => Mon.const _) ?_
    refine ((ok_w a).1 sl h _ E k).mono (fun v h1 k => ?_) fun _ _ _ z => z
    refine comb mL (fun _ _ => Mon.const _) ?_
    exact (ok_wl es sl h1 _ E k).mono (fun v h1 z => ⟨0, z⟩) fun _ _ _ z => z
theorem ok_an : ∀ es sl h Q E, wAn G d es sl h Q E → ∃ n, Hd (evAn ((run G n).e d) es sl h) Q E
  | [], sl, h, Q, E, k => by simp only [wAn] at k
  | [a], sl, h, Q, E, k => by
    simp only [wAn] at k
    exact (ok_w a).1 sl h Q E k
  | a :: b :: es, sl, h, Q, E, k => by
    rw [wAn] at k
    show ∃ n, Hd (((run G n).e d a sl h).bind fun v h1 => match v with
      | .bl true => evAn ((run G n).e d) (b :: es) sl h1
      | .bl false => .ok (.bl false) h1
      | _ => .bad) Q E
    have mm : ∀ h1, Mon fun n => evAn ((run G n).e d) (b :: es) sl h1 := fun h1 n m hn => by
      obtain ⟨j, rfl⟩ := Nat.exists_eq_add_of_le hn
      exact evAn_le (fun i sl h => (run_le G 0 j n).e d i sl h) (b :: es) sl h1
    refine comb mE (fun v h n n' hn => ?_) ?_
    · split
      · exact mm _ n n' hn
      · exact .inr rfl
      · exact .inr rfl
    · refine ((ok_w a).1 sl h _ E k).mono (fun v h1 k => ?_) fun _ _ _ z => z
      split at k
      · exact ok_an (b :: es) sl h1 Q E k
      · exact ⟨0, k⟩
      · exact k.elim
theorem ok_or : ∀ es sl h Q E, wOr G d es sl h Q E → ∃ n, Hd (evOr ((run G n).e d) es sl h) Q E
  | [], sl, h, Q, E, k => by simp only [wOr] at k
  | [a], sl, h, Q, E, k => by
    simp only [wOr] at k
    exact (ok_w a).1 sl h Q E k
  | a :: b :: es, sl, h, Q, E, k => by
    rw [wOr] at k
    show ∃ n, Hd (((run G n).e d a sl h).bind fun v h1 => match v with
      | .bl true => .ok (.bl true) h1
      | .bl false => evOr ((run G n).e d) (b :: es) sl h1
      | _ => .bad) Q E
    have mm : ∀ h1, Mon fun n => evOr ((run G n).e d) (b :: es) sl h1 := fun h1 n m hn => by
      obtain ⟨j, rfl⟩ := Nat.exists_eq_add_of_le hn
      exact evOr_le (fun i sl h => (run_le G 0 j n).e d i sl h) (b :: es) sl h1
    refine comb mE (fun v h n n' hn => ?_) ?_
    · split
      · exact .inr rfl
      · exact mm _ n n' hn
      · exact .inr rfl
    · refine ((ok_w a).1 sl h _ E k).mono (fun v h1 k => ?_) fun _ _ _ z => z
      split at k
      · exact ⟨0, k⟩
      · exact ok_or (b :: es) sl h1 Q E k
      · exact k.elim
theorem ok_tan : ∀ es sl h Q E, tAn G d es sl h Q E → ∃ n, Hd (tsAn ((run G n).t d) es sl h) Q E
  | [], sl, h, Q, E, k => by simp only [tAn] at k
  | [a], sl, h, Q, E, k => by
    simp only [tAn] at k
    exact (ok_w a).2 sl h Q E k
  | a :: b :: es, sl, h, Q, E, k => by
    rw [tAn] at k
    show ∃ n, Hd (((run G n).t d a sl h).bind fun v h1 => match v with
      | true => tsAn ((run G n).t d) (b :: es) sl h1
      | false => .ok false h1) Q E
    have mm : ∀ h1, Mon fun n => tsAn ((run G n).t d) (b :: es) sl h1 := fun h1 n m hn => by
      obtain ⟨j, rfl⟩ := Nat.exists_eq_add_of_le hn
      exact tsAn_le (fun i sl h => (run_le G 0 j n).t d i sl h) (b :: es) sl h1
    refine comb mT (fun v h n n' hn => ?_) ?_
    · split
      · exact mm _ n n' hn
      · exact .inr rfl
    · refine ((ok_w a).2 sl h _ E k).mono (fun v h1 k => ?_) fun _ _ _ z => z
      cases v with
      | true => exact ok_tan (b :: es) sl h1 Q E k
      | false => exact ⟨0, k⟩
theorem ok_tor : ∀ es sl h Q E, tOr G d es sl h Q E → ∃ n, Hd (tsOr ((run G n).t d) es sl h) Q E
  | [], sl, h, Q, E, k => by simp only [tOr] at k
  | [a], sl, h, Q, E, k => by
    simp only [tOr] at k
    exact (ok_w a).2 sl h Q E k
  | a :: b :: es, sl, h, Q, E, k => by
    rw [tOr] at k
    show ∃ n, Hd (((run G n).t d a sl h).bind fun v h1 => match v with
      | true => .ok true h1
      | false => tsOr ((run G n).t d) (b :: es) sl h1) Q E
    have mm : ∀ h1, Mon fun n => tsOr ((run G n).t d) (b :: es) sl h1 := fun h1 n m hn => by
      obtain ⟨j, rfl⟩ := Nat.exists_eq_add_of_le hn
      exact tsOr_le (fun i sl h => (run_le G 0 j n).t d i sl h) (b :: es) sl h1
    refine comb mT (fun v h n n' hn => ?_) ?_
    · split
      · exact .inr rfl
      · exact mm _ n n' hn
    · refine ((ok_w a).2 sl h _ E k).mono (fun v h1 k => ?_) fun _ _ _ z => z
      cases v with
      | true => exact ⟨0, k⟩
      | false => exact ok_tor (b :: es) sl h1 Q E k
end
end
end Mi

set_option Elab.async false
set_option linter.all false
set_option maxRecDepth 100000
set_option maxHeartbeats 1000000
/-! W3: blocks, loops, calls. -/
namespace Mi
open PySem L2
abbrev KS := RsS → Prop
section
variable (G : Prg) (d : Nat)
mutual
def wS1 : IS → LS → LH → KS → Prop
  | .ex e => fun sl h K => (w G d e).1 sl h (fun _ h1 => K (.nx sl h1)) fun c v h1 => K (.exc c v sl h1)
  | .asg tg e => fun sl h K => (w G d e).1 sl h (fun v h1 => match bindT tg v sl with
      | some sl1 => K (.nx sl1 h1)
      | none => False) fun c v h1 => K (.exc c v sl h1)
  | .sub o i e => fun sl h K => (w G d e).1 sl h (fun v h1 => (w G d o).1 sl h1 (fun ov h2 => (w G d i).1 sl h2 (fun iv h3 => match vSet ov iv v h3 with
      | some h4 => K (.nx sl h4)
      | none => False) fun c v h1 => K (.exc c v sl h1)) fun c v h1 => K (.exc c v sl h1)) fun c v h1 => K (.exc c v sl h1)
  | .ret none => fun sl h K => K (.rt .non h)
  | .ret (some e) => fun sl h K => (w G d e).1 sl h (fun v h1 => K (.rt v h1)) fun c v h1 => K (.exc c v sl h1)
  | .iff c a b => fun sl h K => (w G d c).2 sl h (fun x h1 => match x with
      | true => wS a sl h1 K
      | false => wS b sl h1 K) fun c v h1 => K (.exc c v sl h1)
  | .for_ tg k es body => fun sl h K => wL G d es sl h (fun vs h1 => ∃ s, mkSrc k vs h1 = some s ∧ XF G d tg body s 0 sl h1 K) fun c v h1 => K (.exc c v sl h1)
  | .whl c body => fun sl h K => XW G d c body sl h K
  | .brk => fun sl h K => K (.bk sl h)
  | .cnt => fun sl h K => K (.ct sl h)
  | .pas => fun sl h K => K (.nx sl h)
  | .nev => fun sl h K => False
def wS : List IS → LS → LH → KS → Prop
  | [] => fun sl h K => K (.nx sl h)
  | s :: rest => fun sl h K => wS1 s sl h fun x => match x with
    | .nx sl1 h1 => wS rest sl1 h1 K
    | .rt v h1 => K (.rt v h1)
    | .bk sl1 h1 => K (.bk sl1 h1)
    | .ct sl1 h1 => K (.ct sl1 h1)
    | .exc c v sl1 h1 => K (.exc c v sl1 h1)
    | .bad => False
end
end
section
variable {G : Prg} {d : Nat} {sl : LS} {h : LH} {K : KS}
theorem XS.mono {b : List IS} {K' : KS} (k : XS G d b sl h K) (m : ∀ x, K x → K' x) : XS G d b sl h K' := k.elim fun n k => ⟨n, k.mono m⟩
theorem XF.mono {tg : ITg} {b : List IS} {s : Src} {i : Nat} {K' : KS} (k : XF G d tg b s i sl h K) (m : ∀ x, K x → K' x) : XF G d tg b s i sl h K' := k.elim fun n k => ⟨n, k.mono m⟩
theorem combR {r : Nat → Res Val} {F : Nat → Val → LH → RsS} (m : Mon r) (f : ∀ v h, MonS fun n => F n v h) (k : ∃ n, Hd (r n) (fun v h => ∃ n, HdS (F n v h) K) fun c v h1 => K (.exc c v sl h1)) : ∃ n, HdS (ofR (r n) sl (F n)) K :=
  combS (O := fun x g => ofR x sl g) m f (fun _ _ _ => rfl) (fun _ _ _ _ z => z) k
theorem combB {r : Nat → Res Bool} {F : Nat → Bool → LH → RsS} (m : Mon r) (f : ∀ v h, MonS fun n => F n v h) (k : ∃ n, Hd (r n) (fun v h => ∃ n, HdS (F n v h) K) fun c v h1 => K (.exc c v sl h1)) : ∃ n, HdS (ofRB (r n) sl (F n)) K :=
  combS (O := fun x g => ofRB x sl g) m f (fun _ _ _ => rfl) (fun _ _ _ _ z => z) k
theorem combL {r : Nat → Res (List Val)} {F : Nat → List Val → LH → RsS} (m : Mon r) (f : ∀ v h, MonS fun n => F n v h) (k : ∃ n, Hd (r n) (fun v h => ∃ n, HdS (F n v h) K) fun c v h1 => K (.exc c v sl h1)) : ∃ n, HdS (ofRL (r n) sl (F n)) K :=
  combS (O := fun x g => ofRL x sl g) m f (fun _ _ _ => rfl) (fun _ _ _ _ z => z) k
theorem MonS.ofR {r : Nat → Res Val} {F : Nat → Val → LH → RsS} (m : Mon r) (f : ∀ v h, MonS fun n => F n v h) : MonS fun n => ofR (r n) sl (F n) := fun n k hn => LbS.ofR (m n k hn) fun v h => f v h n k hn
/-- one statement, then what follows -/
theorem seqS {r : Nat → RsS} {F : Nat → LS → LH → RsS} (m : MonS r) (f : ∀ sl h, MonS fun n => F n sl h) (k : ∃ n, HdS (r n) fun x => match x with
    | .nx sl1 h1 => ∃ n, HdS (F n sl1 h1) K
    | .rt v h1 => K (.rt v h1)
    | .bk sl1 h1 => K (.bk sl1 h1)
    | .ct sl1 h1 => K (.ct sl1 h1)
    | .exc c v sl1 h1 => K (.exc c v sl1 h1)
    | .bad => False) : ∃ n, HdS (match r n with
    | .nx sl1 h1 => F n sl1 h1
    | x => x) K := by
  obtain ⟨n, k⟩ := k
  cases e : r n with
  | bad => rw [e] at k; exact k.elim
  | rt v h => refine ⟨n, ?_⟩; rw [e] at k ⊢; exact k
  | bk v h => refine ⟨n, ?_⟩; rw [e] at k ⊢; exact k
  | ct v h => refine ⟨n, ?_⟩; rw [e] at k ⊢; exact k
  | exc c v sl h => refine ⟨n, ?_⟩; rw [e] at k ⊢; exact k
  | nx sl1 h1 =>
    have k0 := k
    rw [e] at k
    obtain ⟨j, k⟩ := k
    refine ⟨max n j, ?_⟩
    rw [(m.up k0 (Nat.le_max_left n j)).2, e]
    exact ((f sl1 h1).up k (Nat.le_max_right n j)).1
/-- a loop's turn, then the next -/
theorem seqF {r : Nat → RsS} {F : Nat → LS → LH → RsS} (m : MonS r) (f : ∀ sl h, MonS fun n => F n sl h) (k : ∃ n, HdS (r n) fun x => match x with
    | .nx sl1 h1 => ∃ n, HdS (F n sl1 h1) K
    | .ct sl1 h1 => ∃ n, HdS (F n sl1 h1) K
    | .rt v h1 => K (.rt v h1)
    | .bk sl1 h1 => K (.nx sl1 h1)
    | .exc c v sl1 h1 => K (.exc c v sl1 h1)
    | .bad => False) : ∃ n, HdS (match r n with
    | .nx sl1 h1 => F n sl1 h1
    | .ct sl1 h1 => F n sl1 h1
    | .bk sl1 h1 => .nx sl1 h1
    | x => x) K := by
  obtain ⟨n, k⟩ := k
  cases e : r n with
  | bad => rw [e] at k; exact k.elim
  | rt v h => refine ⟨n, ?_⟩; rw [e] at k ⊢; exact k
  | bk v h => refine ⟨n, ?_⟩; rw [e] at k ⊢; exact k
  | exc c v sl h => refine ⟨n, ?_⟩; rw [e] at k ⊢; exact k
  | nx sl1 h1 =>
    have k0 := k
    rw [e] at k
    obtain ⟨j, k⟩ := k
    refine ⟨max n j, ?_⟩
    rw [(m.up k0 (Nat.le_max_left n j)).2, e]
    exact ((f sl1 h1).up k (Nat.le_max_right n j)).1
  | ct sl1 h1 =>
    have k0 := k
    rw [e] at k
    obtain ⟨j, k⟩ := k
    refine ⟨max n j, ?_⟩
    rw [(m.up k0 (Nat.le_max_left n j)).2, e]
    exact ((f sl1 h1).up k (Nat.le_max_right n j)).1
mutual
theorem ok_s1 : ∀ (st : IS) (sl : LS) (h : LH) (K : KS), wS1 G d st sl h K → X1 G d st sl h K
  | .ex e, sl, h, K, k => by
    rw [wS1] at k
    refine combR (F := fun _ _ h1 => .nx sl h1) mE (fun _ _ => MonS.const _) ?_
    exact ((ok_w e).1 sl h _ _ k).mono (fun v h1 z => ⟨0, z⟩) fun _ _ _ z => z
  | .asg tg e, sl, h, K, k => by
    rw [wS1] at k
    refine combR (F := fun _ v h1 => nxB tg v sl h1) mE (fun _ _ => MonS.const _) ?_
    refine ((ok_w e).1 sl h _ _ k).mono (fun v h1 z => ⟨0, ?_⟩) fun _ _ _ z => z
    unfold nxB
    split at z
    · rename_i e1; first | exact z | (rw [e1]; exact z)
    · exact z.elim
  | .sub o i e, sl, h, K, k => by
    rw [wS1] at k
    have mv : ∀ (v : Val) (h1 : LH), MonS fun n => ofR ((run G n).e d o sl h1) sl fun ov h2 => ofR ((run G n).e d i sl h2) sl fun iv h3 => match vSet ov iv v h3 with
      | some h4 => .nx sl h4
      | none => .bad := fun v h1 => MonS.ofR mE fun _ _ => MonS.ofR mE fun _ _ => MonS.const _
    refine combR (F := fun n v h1 => ofR ((run G n).e d o sl h1) sl fun ov h2 => ofR ((run G n).e d i sl h2) sl fun iv h3 => match vSet ov iv v h3 with
      | some h4 => .nx sl h4
      | none => .bad) mE mv ?_
    refine ((ok_w e).1 sl h _ _ k).mono (fun v h1 z => ?_) fun _ _ _ z => z
    refine combR (F := fun n ov h2 => ofR ((run G n).e d i sl h2) sl fun iv h3 => match vSet ov iv v h3 with
      | some h4 => .nx sl h4
      | none => .bad) mE (fun _ _ => MonS.ofR mE fun _ _ => MonS.const _) ?_
    refine ((ok_w o).1 sl h1 _ _ z).mono (fun ov h2 z => ?_) fun _ _ _ z => z
    refine combR (F := fun n iv h3 => match vSet ov iv v h3 with
      | some h4 => .nx sl h4
      | none => .bad) mE (fun _ _ => MonS.const _) ?_
    refine ((ok_w i).1 sl h2 _ _ z).mono (fun iv h3 z => ⟨0, ?_⟩) fun _ _ _ z => z
    split at z
    · exact z
    · exact z.elim
  | .ret none, sl, h, K, k => by
    rw [wS1] at k
    exact ⟨0, k⟩
  | .ret (some e), sl, h, K, k => by
    rw [wS1] at k
    refine combR (F := fun _ v h1 => .rt v h1) mE (fun _ _ => MonS.const _) ?_
    exact ((ok_w e).1 sl h _ _ k).mono (fun v h1 z => ⟨0, z⟩) fun _ _ _ z => z
  | .iff c a b, sl, h, K, k => by
    rw [wS1] at k
    refine combB (F := fun n x h1 => match x with
      | true => (run G n).s d a sl h1
      | false => (run G n).s d b sl h1) mT (fun v h => by cases v <;> exact mS) ?_
    refine ((ok_w c).2 sl h _ _ k).mono (fun v h1 z => ?_) fun _ _ _ z => z
    cases v with
    | true => exact ok_s a sl h1 K z
    | false => exact ok_s b sl h1 K z
  | .for_ tg k es body, sl, h, K, z => by
    rw [wS1] at z
    refine combL (F := fun n vs h1 => match mkSrc k vs h1 with
      | some s => (run G n).f d tg body s 0 sl h1
      | none => .bad) mL (fun v h n n' hn => ?_) ?_
    · dsimp only
      split
      · exact mF n n' hn
      · exact .inr rfl
    · refine ((ok_wl es) sl h _ _ z).mono (fun v h1 z => ?_) fun _ _ _ z => z
      obtain ⟨s, e, n, z⟩ := z
      refine ⟨n, ?_⟩
      rw [e]
      exact z
  | .whl c body, sl, h, K, k => by
    rw [wS1] at k
    exact k
  | .brk, sl, h, K, k => by rw [wS1] at k; exact ⟨0, k⟩
  | .cnt, sl, h, K, k => by rw [wS1] at k; exact ⟨0, k⟩
  | .pas, sl, h, K, k => by rw [wS1] at k; exact ⟨0, k⟩
  | .nev, sl, h, K, k => by rw [wS1] at k; exact k.elim
theorem ok_s : ∀ (b : List IS) (sl : LS) (h : LH) (K : KS), wS G d b sl h K → XS G d b sl h K
  | [], sl, h, K, k => by
    rw [wS] at k
    exact ⟨1, k⟩
  | s :: rest, sl, h, K, k => by
    rw [wS] at k
    have q : ∃ n, HdS (match stS1 (run G n) d s sl h with
      | .nx sl1 h1 => (run G n).s d rest sl1 h1
      | x => x) K := by
      refine seqS (F := fun n sl1 h1 => (run G n).s d rest sl1 h1) m1 (fun _ _ => mS) ?_
      obtain ⟨n, z⟩ := ok_s1 s sl h _ k
      refine ⟨n, z.mono fun x z => ?_⟩
      cases x with
      | nx sl1 h1 => exact ok_s rest sl1 h1 K z
      | _ => exact z
    exact q.elim fun n q => ⟨n + 1, q⟩
end
/-! ### loops -/
/-- a turn of a for -/
def KF (K : KS) (I : LS → LH → Prop) : KS := fun x => match x with
  | .nx sl1 h1 => I sl1 h1
  | .ct sl1 h1 => I sl1 h1
  | .rt v h1 => K (.rt v h1)
  | .bk sl1 h1 => K (.nx sl1 h1)
  | .exc c v sl1 h1 => K (.exc c v sl1 h1)
  | .bad => False
theorem xf_stop {tg : ITg} {b : List IS} {s : Src} {i : Nat} (e : item s i h = some none) (k : K (.nx sl h)) : XF G d tg b s i sl h K := ⟨1, by
  show HdS (stF (run G 0) d tg b s i sl h) K
  unfold stF
  rw [e]
  exact k⟩
theorem xf_go {tg : ITg} {b : List IS} {s : Src} {i : Nat} {v : Val} {sl1 : LS} (e : item s i h = some (some v)) (eb : bindT tg v sl = some sl1) (k : wS G d b sl1 h (KF K fun sl2 h2 => XF G d tg b s (i + 1) sl2 h2 K)) : XF G d tg b s i sl h K := by
  have q : ∃ n, HdS (match (run G n).s d b sl1 h with
      | .nx sl2 h2 => (run G n).f d tg b s (i + 1) sl2 h2
      | .ct sl2 h2 => (run G n).f d tg b s (i + 1) sl2 h2
      | .bk sl2 h2 => .nx sl2 h2
      | x => x) K := by
    refine seqF (F := fun n sl2 h2 => (run G n).f d tg b s (i + 1) sl2 h2) mS (fun _ _ => mF) ?_
    refine (ok_s b sl1 h _ k).mono fun x z => ?_
    cases x <;> exact z
  obtain ⟨n, q⟩ := q
  refine ⟨n + 1, ?_⟩
  show HdS (stF (run G n) d tg b s i sl h) K
  unfold stF
  rw [e]
  dsimp only
  rw [eb]
  exact q
/-- a for by an invariant over the turn, the slots, the heap -/
theorem xf_inv {tg : ITg} {b : List IS} {s : Src} (N : Nat) (I : Nat → LS → LH → Prop) (h0 : I 0 sl h)
    (hs : ∀ i sl h, i < N → I i sl h → ∃ v sl1, item s i h = some (some v) ∧ bindT tg v sl = some sl1 ∧ wS G d b sl1 h (KF K (I (i + 1))))
    (he : ∀ sl h, I N sl h → item s N h = some none ∧ K (.nx sl h)) : XF G d tg b s 0 sl h K := by
  have go : ∀ (j i : Nat) (sl : LS) (h : LH), i + j = N → I i sl h → XF G d tg b s i sl h K := by
    intro j
    induction j with
    | zero =>
      intro i sl h e k
      obtain ⟨e1, e2⟩ := he sl h (by rw [← e]; exact k)
      exact xf_stop (by rw [show i = N by omega]; exact e1) e2
    | succ j ih =>
      intro i sl h e k
      obtain ⟨v, sl1, e1, e2, e3⟩ := hs i sl h (by omega) k
      have q : ∃ n, HdS (match (run G n).s d b sl1 h with
          | .nx sl2 h2 => (run G n).f d tg b s (i + 1) sl2 h2
          | .ct sl2 h2 => (run G n).f d tg b s (i + 1) sl2 h2
          | .bk sl2 h2 => .nx sl2 h2
          | x => x) K := by
        refine seqF (F := fun n sl2 h2 => (run G n).f d tg b s (i + 1) sl2 h2) mS (fun _ _ => mF) ?_
        refine (ok_s b sl1 h _ e3).mono fun x z => ?_
        cases x with
        | nx sl2 h2 => exact ih (i + 1) sl2 h2 (by omega) z
        | ct sl2 h2 => exact ih (i + 1) sl2 h2 (by omega) z
        | _ => exact z
      obtain ⟨n, q⟩ := q
      refine ⟨n + 1, ?_⟩
      show HdS (stF (run G n) d tg b s i sl h) K
      unfold stF
      rw [e1]
      dsimp only
      rw [e2]
      exact q
  exact go N 0 sl h (by omega) h0
/-- a while by an invariant and a number that falls -/
theorem xw_inv {c : IE} {b : List IS} (m : LS → LH → Nat) (I : LS → LH → Prop) (h0 : I sl h)
    (hs : ∀ sl h, I sl h → (w G d c).2 sl h (fun x h1 => match x with
      | false => K (.nx sl h1)
      | true => wS G d b sl h1 (KF K fun sl2 h2 => I sl2 h2 ∧ m sl2 h2 < m sl h)) fun c v h1 => K (.exc c v sl h1)) : XW G d c b sl h K := by
  have go : ∀ (j : Nat) (sl : LS) (h : LH), m sl h < j → I sl h → XW G d c b sl h K := by
    intro j
    induction j with
    | zero => intro sl h e; omega
    | succ j ih =>
      intro sl h e k
      have q : ∃ n, HdS (ofRB ((run G n).t d c sl h) sl fun x h1 => match x with
        | false => .nx sl h1
        | true => (match (run G n).s d b sl h1 with
          | .nx sl2 h2 => (run G n).w d c b sl2 h2
          | .ct sl2 h2 => (run G n).w d c b sl2 h2
          | .bk sl2 h2 => .nx sl2 h2
          | x => x)) K := by
        refine combB (F := fun n x h1 => match x with
          | false => .nx sl h1
          | true => (match (run G n).s d b sl h1 with
            | .nx sl2 h2 => (run G n).w d c b sl2 h2
            | .ct sl2 h2 => (run G n).w d c b sl2 h2
            | .bk sl2 h2 => .nx sl2 h2
            | x => x)) mT (fun v h1 n n' hn => ?_) ?_
        · cases v with
          | false => exact .inr rfl
          | true =>
            dsimp only
            rcases mS (G := G) (d := d) (b := b) (sl := sl) (h := h1) n n' hn with z | z
            · left
              dsimp only at z
              rw [z]
            · dsimp only at z
              rw [z]
              cases (run G n).s d b sl h1 with
              | nx _ _ => exact mW n n' hn
              | ct _ _ => exact mW n n' hn
              | _ => exact .inr rfl
        · refine ((ok_w c).2 sl h _ _ (hs sl h k)).mono (fun v h1 z => ?_) fun _ _ _ z => z
          cases v with
          | false => exact ⟨0, z⟩
          | true =>
            refine seqF (F := fun n sl2 h2 => (run G n).w d c b sl2 h2) mS (fun _ _ => mW) ?_
            refine (ok_s b sl h1 _ z).mono fun x z => ?_
            cases x with
            | nx sl2 h2 => exact ih sl2 h2 (by have := z.2; omega) z.1
            | ct sl2 h2 => exact ih sl2 h2 (by have := z.2; omega) z.1
            | _ => exact z
      exact q.elim fun n q => ⟨n + 1, q⟩
  exact go _ sl h (Nat.lt_succ_self _) h0
/-! ### comprehensions -/
section
variable {tg : ITg} {ifs : List IE} {el : IE} {ow : List Nat} {s : Src} {i D : Nat} {Q : Val → LH → Prop} {E : EP}
theorem xl_stop (e : item s i h = some none) (k : Q (.loc D) h) : XLc G d tg ifs el ow s i D sl h Q E := ⟨1, by
  show Hd (stL (run G 0) d tg ifs el ow s i D sl h) Q E
  unfold stL
  rw [e]
  exact k⟩
/-- a turn without a condition -/
def noX : EP := fun _ _ _ => False
theorem calm_of {α : Type} {r : Res α} {P : α → LH → Prop} (k : Hd r P noX) : calm r = r := by
  cases r with
  | exc _ _ _ => exact k.elim
  | _ => rfl
theorem xl_turn (F : Val → LH → Prop) {v : Val} {sl1 : LS} (e : item s i h = some (some v)) (eb : bindT tg v sl = some sl1) (k : XE G d el sl1 h (fun y h1 => ∃ acc, h1[D]? = some (.lst acc) ∧ acc.length < sizeLine ∧ XLc G d tg [] el ow s (i + 1) D sl (h1.set D (.lst (acc ++ [y]))) Q E) noX) : XLc G d tg [] el ow s i D sl h Q E := by
  obtain ⟨n, k⟩ := k
  have hc := calm_of k
  cases e0 : (run G n).e d el sl1 h with
  | bad => rw [e0] at k; exact k.elim
  | exc _ _ _ => rw [e0] at k; exact k.elim
  | ok y h1 =>
    have k0 := k
    rw [e0] at k
    obtain ⟨acc, e1, e2, j, k⟩ := k
    refine ⟨max n j + 1, ?_⟩
    show Hd (stL (run G (max n j)) d tg [] el ow s i D sl h) Q E
    unfold stL
    rw [e]
    dsimp only
    rw [eb]
    show Hd ((calm ((run G (max n j)).e d el sl1 h)).bind _) Q E
    rw [(mE.up k0 (Nat.le_max_left n j)).2, e0]
    show Hd (match h1[D]? with
      | some (.lst acc) => (match decide (acc.length < sizeLine) with
        | true => (run G (max n j)).l d tg [] el ow s (i + 1) D sl (h1.set D (Ob.lst (acc ++ [y])))
        | false => .bad)
      | _ => .bad) Q E
    rw [e1]
    dsimp only
    rw [decide_eq_true e2]
    exact (mLc.up k (Nat.le_max_right n j)).1
/-- a comprehension with or without a condition, one turn -/
theorem xl_goX {v : Val} {sl1 : LS} (e : item s i h = some (some v)) (eb : bindT tg v sl = some sl1)
    (k : match ifs with
      | [] => XE G d el sl1 h (fun y h1 => ∃ acc, h1[D]? = some (.lst acc) ∧ acc.length < sizeLine ∧ XLc G d tg ifs el ow s (i + 1) D sl (h1.set D (.lst (acc ++ [y]))) Q E) noX
      | [c] => XT G d c sl1 h (fun t h1 => match t with
        | true => XE G d el sl1 h1 (fun y h2 => ∃ acc, h2[D]? = some (.lst acc) ∧ acc.length < sizeLine ∧ XLc G d tg ifs el ow s (i + 1) D sl (h2.set D (.lst (acc ++ [y]))) Q E) noX
        | false => XLc G d tg ifs el ow s (i + 1) D sl h1 Q E) noX
      | _ => False) : XLc G d tg ifs el ow s i D sl h Q E := by
  match ifs, k with
  | [], k => exact xl_turn (fun _ _ => True) e eb k
  | [c], k =>
    obtain ⟨n, k⟩ := k
    cases e0 : (run G n).t d c sl1 h with
    | bad => rw [e0] at k; exact k.elim
    | exc _ _ _ => rw [e0] at k; exact k.elim
    | ok t h1 =>
      have k0 := k
      rw [e0] at k
      cases t with
      | false =>
        obtain ⟨j, k⟩ := k
        refine ⟨max n j + 1, ?_⟩
        show Hd (stL (run G (max n j)) d tg [c] el ow s i D sl h) Q E
        unfold stL
        rw [e]
        dsimp only
        rw [eb]
        show Hd ((calm ((run G (max n j)).t d c sl1 h)).bind _) Q E
        rw [(mT.up k0 (Nat.le_max_left n j)).2, e0]
        exact (mLc.up k (Nat.le_max_right n j)).1
      | true =>
        obtain ⟨m, k⟩ := k
        cases e3 : (run G m).e d el sl1 h1 with
        | bad => rw [e3] at k; exact k.elim
        | exc _ _ _ => rw [e3] at k; exact k.elim
        | ok y h2 =>
          have k1 := k
          rw [e3] at k
          obtain ⟨acc, e1, e2, j, k⟩ := k
          refine ⟨max n (max m j) + 1, ?_⟩
          show Hd (stL (run G (max n (max m j))) d tg [c] el ow s i D sl h) Q E
          unfold stL
          rw [e]
          dsimp only
          rw [eb]
          show Hd ((calm ((run G (max n (max m j))).t d c sl1 h)).bind _) Q E
          rw [(mT.up k0 (Nat.le_max_left n _)).2, e0]
          show Hd ((calm ((run G (max n (max m j))).e d el sl1 h1)).bind _) Q E
          rw [(mE.up k1 (show m ≤ max n (max m j) by omega)).2, e3]
          show Hd (match h2[D]? with
            | some (.lst acc) => (match decide (acc.length < sizeLine) with
              | true => (run G (max n (max m j))).l d tg [c] el ow s (i + 1) D sl (h2.set D (Ob.lst (acc ++ [y])))
              | false => .bad)
            | _ => .bad) Q E
          rw [e1]
          dsimp only
          rw [decide_eq_true e2]
          exact (mLc.up k (show j ≤ max n (max m j) by omega)).1
  | _ :: _ :: _, k => exact k.elim
/-- a comprehension by an invariant over the turn, the list so far, the heap -/
theorem xl_inv (N : Nat) (I : Nat → LH → Prop) (h0 : I 0 h)
    (hs : ∀ i h, i < N → I i h → ∃ v sl1, item s i h = some (some v) ∧ bindT tg v sl = some sl1 ∧ (match ifs with
      | [] => (w G d el).1 sl1 h (fun y h1 => ∃ acc, h1[D]? = some (.lst acc) ∧ acc.length < sizeLine ∧ I (i + 1) (h1.set D (.lst (acc ++ [y])))) noX
      | [c] => (w G d c).2 sl1 h (fun t h1 => match t with
        | true => (w G d el).1 sl1 h1 (fun y h2 => ∃ acc, h2[D]? = some (.lst acc) ∧ acc.length < sizeLine ∧ I (i + 1) (h2.set D (.lst (acc ++ [y])))) noX
        | false => I (i + 1) h1) noX
      | _ => False))
    (he : ∀ h, I N h → item s N h = some none ∧ Q (.loc D) h) : XLc G d tg ifs el ow s 0 D sl h Q E := by
  have go : ∀ (j i : Nat) (h : LH), i + j = N → I i h → XLc G d tg ifs el ow s i D sl h Q E := by
    intro j
    induction j with
    | zero =>
      intro i h e k
      obtain ⟨e1, e2⟩ := he h (by rw [← e]; exact k)
      exact xl_stop (by rw [show i = N by omega]; exact e1) e2
    | succ j ih =>
      intro i h e k
      obtain ⟨v, sl1, e1, e2, e3⟩ := hs i h (by omega) k
      refine xl_goX e1 e2 ?_
      match ifs, e3, ih with
      | [], e3, ih => exact ((ok_w el).1 sl1 h _ _ e3).mono (fun y h1 z => by
          obtain ⟨acc, z1, z2, z3⟩ := z
          exact ⟨acc, z1, z2, ih (i + 1) _ (by omega) z3⟩) fun _ _ _ z => z
      | [c], e3, ih =>
        refine ((ok_w c).2 sl1 h _ _ e3).mono (fun t h1 z => ?_) fun _ _ _ z => z
        cases t with
        | false => exact ih (i + 1) _ (by omega) z
        | true => exact ((ok_w el).1 sl1 h1 _ _ z).mono (fun y h1 z => by
          obtain ⟨acc, z1, z2, z3⟩ := z
          exact ⟨acc, z1, z2, ih (i + 1) _ (by omega) z3⟩) fun _ _ _ z => z
      | _ :: _ :: _, e3, ih => exact e3.elim
  exact go N 0 h (by omega) h0
end
/-! ### calls -/
theorem xc {k : Nat} {D : DefI} {vs : List Val} {Q : Val → LH → Prop} {E : EP} (e : G.defs[k]? = some D) (hp : vs.length = D.ps) (z : wS G d D.body (vs.map some ++ List.replicate (D.n - vs.length) none) h fun x => match x with
    | .rt v h1 => Q v h1
    | .nx _ h1 => Q .non h1
    | .exc c v _ h1 => E c v h1
    | _ => False) : XC G d k vs h Q E := by
  obtain ⟨n, z⟩ := ok_s _ _ _ _ z
  refine ⟨n + 1, ?_⟩
  show Hd (stC G (run G n) d k vs h) Q E
  unfold stC
  rw [e]
  dsimp only
  rw [decide_eq_true hp]
  dsimp only
  cases e1 : (run G n).s d D.body (vs.map some ++ List.replicate (D.n - vs.length) none) h with
  | bad => rw [e1] at z; exact z.elim
  | bk _ _ => rw [e1] at z; exact z.elim
  | ct _ _ => rw [e1] at z; exact z.elim
  | rt v h1 => rw [e1] at z; exact z
  | nx sl h1 => rw [e1] at z; exact z
  | exc c v sl h1 => rw [e1] at z; exact z
theorem xc_of {k : Nat} {vs : List Val} {v : Val} {h1 : LH} {E : EP} {n d0 : Nat} (e : (run G n).c d0 k vs h = .ok v h1) (hd : d0 ≤ d) {Q : Val → LH → Prop} (q : Q v h1) : XC G d k vs h Q E := ⟨n, by rw [more e (Nat.le_refl n) hd]; exact q⟩
theorem XC.get {k : Nat} {vs : List Val} {Q : Val → LH → Prop} (x : XC G d k vs h Q noX) : ∃ n v h1, (run G n).c d k vs h = .ok v h1 ∧ Q v h1 := by
  obtain ⟨n, x⟩ := x
  cases e : (run G n).c d k vs h with
  | bad => rw [e] at x; exact x.elim
  | exc _ _ _ => rw [e] at x; exact x.elim
  | ok v h1 => rw [e] at x; exact ⟨n, v, h1, e, x⟩
end
end Mi

set_option Elab.async false
set_option linter.all false
set_option maxRecDepth 100000
set_option maxHeartbeats 1000000
/-! HX: a def's promise by its runs at any fuel. -/
namespace Mi
open PySem L2 PyProof.Rows
theorem fnG_ex {P : Program} {w : World} {K : PySem.W.Frag} {mg : Str → Option Value} {base : Heap} {CX : CXT} {k d j : Nat} {f : Addr} {fd : FuncData} {ps : List Str} {G : Prg} {ca : Str → Addr}
    (fo : ∀ n, FnG P w K mg base CX k f fd ps (spC K ca ((run G (n + 1)).c d j))) : FnG P w K mg base CX k f fd ps (fun vs H Q E => ∃ n, spC K ca ((run G n).c d j) vs H Q E) := by
  refine ⟨fun vs H Q E z => ?_, fun A outer s H args us vs Q E a b c d' e z => ?_⟩
  · obtain ⟨n, z⟩ := z
    cases n with
    | zero => obtain ⟨_, _, _, _, _, q⟩ := z; exact (show False from q).elim
    | succ n => exact (fo n).len vs H Q E z
  · obtain ⟨n, z⟩ := z
    cases n with
    | zero => obtain ⟨_, _, _, _, _, q⟩ := z; exact (show False from q).elim
    | succ n => exact (fo n).run A outer s H args us vs Q E a b c d' e z
end Mi

set_option Elab.async false
set_option linter.all false
set_option maxRecDepth 100000
set_option maxHeartbeats 1000000
/-! L1: what all laws have: the pot and its draws. -/
namespace Mi
open PySem L2
def takeB (A B C D : Int) : List IS := [.iff (.cmp .Gt (.ix (.var 0) (.cst (.int 0))) (.cst (.int 0))) [.asg (.nm 4) (.bin .Mod (.blt .int [(.ix (.var 0) (.cst (.int 0)))]) (.var 1)), .sub (.var 0) (.cst (.int 0)) (.bin .FloorDiv (.ix (.var 0) (.cst (.int 0))) (.var 1)), .ret (some (.var 4))] [], .sub (.var 0) (.cst (.int 2)) (.bin .Add (.ix (.var 0) (.cst (.int 2))) (.cst (.int 1))), .asg (.nm 2) (.ix (.ls [(.cst (.int 2147483647)), (.cst (.int 2147483629)), (.cst (.int 2147483587)), (.cst (.int 2147483579)), (.cst (.int 2147483563))]) (.bin .Mod (.blt .int [(.ix (.var 0) (.cst (.int 2)))]) (.cst (.int 5)))), .asg (.nm 3) (.bin .Mod (.blt .int [(.bin .Pow (.blt .int [(.bin .Add (.bin .Add (.ix (.var 0) (.cst (.int 1))) (.bin .Mult (.bin .Mult (.cst (.int A)) (.ix (.var 0) (.cst (.int 2)))) (.ix (.var 0) (.cst (.int 2))))) (.cst (.int B)))]) (.cst (.int 3)))]) (.var 2)), .asg (.nm 3) (.bin .Mod (.blt .int [(.bin .Mult (.var 3) (.bin .Add (.bin .Mod (.blt .int [(.var 3)]) (.cst (.int C))) (.bin .Mult (.cst (.int D)) (.ix (.var 0) (.cst (.int 2))))))]) (.cst (.int 2305843009213693907))), .ret (some (.bin .Mod (.blt .int [(.bin .FloorDiv (.var 3) (.cst (.int 151)))]) (.var 1)))]
/-- a pot from which at most n were drawn -/
def Pot (h : LH) (p n : Nat) : Prop := ∃ a b c : Int, h[p]? = some (.lst [.int a, .int b, .int c]) ∧ 0 ≤ b ∧ b < 2 ^ 61 ∧ 0 ≤ c ∧ c ≤ n
/-- all but the thing at p stays -/
def Kp (p : Nat) (h h' : LH) : Prop := h.length ≤ h'.length ∧ ∀ q o, q ≠ p → h[q]? = some o → h'[q]? = some o
theorem Kp.refl (p : Nat) (h : LH) : Kp p h h := ⟨Nat.le_refl _, fun _ _ _ e => e⟩
theorem Kp.trans {p : Nat} {h h1 h2 : LH} (a : Kp p h h1) (b : Kp p h1 h2) : Kp p h h2 := ⟨Nat.le_trans a.1 b.1, fun q o n e => b.2 q o n (a.2 q o n e)⟩
theorem Kp.app (p : Nat) (h l : LH) : Kp p h (h ++ l) := ⟨by simp, fun q o _ e => by rw [List.getElem?_append_left (List.getElem?_eq_some_iff.mp e).1]; exact e⟩
theorem Kp.set (p : Nat) (h : LH) (o : Ob) : Kp p h (h.set p o) := ⟨by simp, fun q o' n e => by rw [List.getElem?_set_ne (Ne.symm n)]; exact e⟩
theorem at_app {h l : LH} {q : Nat} {o : Ob} (e : h[q]? = some o) : (h ++ l)[q]? = some o := by rw [List.getElem?_append_left (List.getElem?_eq_some_iff.mp e).1]; exact e
theorem at_end {h : LH} {o : Ob} : (h ++ [o])[h.length]? = some o := by simp
theorem Pot.app {h l : LH} {p n : Nat} (a : Pot h p n) : Pot (h ++ l) p n := by
  obtain ⟨a, b, c, e, r⟩ := a
  exact ⟨a, b, c, at_app e, r⟩
theorem Pot.more {h : LH} {p n m : Nat} (a : Pot h p n) (hn : n ≤ m) : Pot h p m := by
  obtain ⟨a, b, c, e, h1, h2, h3, h4⟩ := a
  exact ⟨a, b, c, e, h1, h2, h3, by omega⟩
theorem Pot.lt {h : LH} {p n : Nat} (a : Pot h p n) : p < h.length := by
  obtain ⟨a, b, c, e, _⟩ := a
  exact (List.getElem?_eq_some_iff.mp e).1
/-! ### values -/
theorem log_lt {i : Int} {k : Nat} (h0 : 0 ≤ i) (h : i < 2 ^ k) (hk : 0 < k) : i.natAbs.log2 < k := by
  have h1 : i.natAbs < 2 ^ k := by
    have : ((i.natAbs : Nat) : Int) = i := Int.natAbs_of_nonneg h0
    have h2 : ((i.natAbs : Nat) : Int) < ((2 ^ k : Nat) : Int) := by rw [this]; push_cast; exact h
    exact Int.ofNat_lt.mp h2
  by_cases hz : i.natAbs = 0
  · rw [hz]; exact hk
  · exact (Nat.log2_lt hz).mpr h1
theorem v_ix {h : LH} {p : Nat} {xs : List Val} {i : Int} {v : Val} (hp : h[p]? = some (.lst xs)) (e : atI xs i = some v) : vIx (.loc p) (.int i) h = .ok v h := by
  unfold vIx
  dsimp only
  rw [hp]
  dsimp only
  rw [e]
  rfl
theorem v_set {h : LH} {p : Nat} {xs : List Val} {i : Int} {j : Nat} {v : Val} (hp : h[p]? = some (.lst xs)) (e : ixN xs.length i = some j) : vSet (.loc p) (.int i) v h = some (h.set p (.lst (xs.set j v))) := by
  unfold vSet
  dsimp only
  rw [hp]
  dsimp only
  rw [e]
  rfl
theorem v_mod {h : LH} {i j : Int} (hj : j ≠ 0) : vBin .Mod (.int i) (.int j) h = .ok (.int (i.fmod j)) h := by
  show chk (decide (j ≠ 0)) _ = _
  rw [decide_eq_true hj]
  rfl
theorem v_div {h : LH} {i j : Int} (hj : j ≠ 0 ∧ j.natAbs.log2 < 9000) : vBin .FloorDiv (.int i) (.int j) h = .ok (.int (i.fdiv j)) h := by
  show chk (decide (j ≠ 0 ∧ j.natAbs.log2 < 9000)) _ = _
  rw [decide_eq_true hj]
  rfl
theorem v_add {h : LH} {i j : Int} : vBin .Add (.int i) (.int j) h = .ok (.int (i + j)) h := rfl
theorem v_mul {h : LH} {i j : Int} (hi : i.natAbs.log2 < 100000) (hj : j.natAbs.log2 < 100000) : vBin .Mult (.int i) (.int j) h = .ok (.int (i * j)) h := by
  show chk (decide (i.natAbs.log2 + j.natAbs.log2 < 1000000)) _ = _
  rw [decide_eq_true (by omega)]
  rfl
theorem v_pow3 {h : LH} {i : Int} (hi : i.natAbs.log2 < 100000) : vBin .Pow (.int i) (.int 3) h = .ok (.int (i ^ 3)) h := by
  have e : decide (0 ≤ (3 : Int) ∧ (i.natAbs.log2 + 1 : Int) * 3 ≤ 2 ^ 27) = true := decide_eq_true ⟨by omega, by omega⟩
  unfold vBin vPow
  dsimp only
  rw [e]
  rfl
def primes : List Val := [.int 2147483647, .int 2147483629, .int 2147483587, .int 2147483579, .int 2147483563]
theorem prime_at (c : Int) : ∃ q : Int, atI primes (c.fmod 5) = some (.int q) ∧ 0 < q ∧ q < 2 ^ 31 := by
  have h1 : 0 ≤ c.fmod 5 := Int.fmod_nonneg_of_pos c (by omega)
  have h2 : c.fmod 5 < 5 := Int.fmod_lt_of_pos c (by omega)
  generalize c.fmod 5 = m at h1 h2
  have : m = 0 ∨ m = 1 ∨ m = 2 ∨ m = 3 ∨ m = 4 := by omega
  rcases this with rfl | rfl | rfl | rfl | rfl
  · exact ⟨_, rfl, by omega, by omega⟩
  · exact ⟨_, rfl, by omega, by omega⟩
  · exact ⟨_, rfl, by omega, by omega⟩
  · exact ⟨_, rfl, by omega, by omega⟩
  · exact ⟨_, rfl, by omega, by omega⟩
theorem hd_by {α : Type} {r : Res α} {v : α} {h : LH} {Q : α → LH → Prop} {E : EP} (e : r = .ok v h) (k : Q v h) : Hd r Q E := by rw [e]; exact k
theorem log_mul {i j : Int} {k l : Nat} (hi : 0 ≤ i) (hi2 : i < 2 ^ k) (hj : 0 ≤ j) (hj2 : j < 2 ^ l) : 0 ≤ i * j ∧ i * j < 2 ^ (k + l) := by
  refine ⟨Int.mul_nonneg hi hj, ?_⟩
  rw [Int.pow_add]
  exact Int.mul_lt_mul' (Int.le_of_lt hi2) hj2 hj (Int.pow_pos (by omega))
section
variable {G : Prg} {d kt : Nat} {A B C D : Int}
theorem x_take {h : LH} {p n : Nat} {u : Int} {E : EP} (hG : G.defs[kt]? = some ⟨2, 5, takeB A B C D⟩) (hA : 0 ≤ A ∧ A < 2 ^ 60) (hB : 0 ≤ B ∧ B < 2 ^ 60) (hC : 0 < C ∧ C < 2 ^ 60) (hD : 0 ≤ D ∧ D < 2 ^ 60) (hp : Pot h p n) (hn : n < 2 ^ 60) (hu : 0 < u) (hu2 : u < 2 ^ 60) :
    XC G d kt [.loc p, .int u] h (fun v h' => ∃ r : Int, v = .int r ∧ 0 ≤ r ∧ r < u ∧ Pot h' p (n + 1) ∧ Kp p h h') E := by
  obtain ⟨a, b, c, e, hb1, hb2, hc1, hc2⟩ := hp
  have hlt : p < h.length := (List.getElem?_eq_some_iff.mp e).1
  refine xc hG rfl ?_
  simp only [takeB, wS, wS1, w, wL, ttr, tbl, List.map_cons, List.map_nil, List.cons_append, List.nil_append, List.getElem?_cons_zero, List.getElem?_cons_succ]
  by_cases ha : 0 < a
  · have ga : vCmp .Gt (.int a) (.int 0) h = .ok (.bl true) h := by
      show Res.ok (Val.bl (decide (0 < a))) h = _
      rw [decide_eq_true ha]
    refine ⟨rfl, hd_by (v_ix e rfl) ⟨rfl, hd_by ga ⟨rfl, hd_by (v_ix e rfl) (hd_by (v := .int a) rfl (hd_by (v_mod (by omega)) ⟨rfl, hd_by (v_ix e rfl) (hd_by (v_div ⟨by omega, ?_⟩) ⟨rfl, ?_⟩)⟩))⟩⟩⟩
    · exact Nat.lt_of_lt_of_le (log_lt (k := 60) (by omega) hu2 (by omega)) (by omega)
    · rw [v_set e (j := 0) rfl]
      refine ⟨_, rfl, Int.fmod_nonneg_of_pos a hu, Int.fmod_lt_of_pos a hu, ⟨_, b, c, List.getElem?_set_self hlt, hb1, hb2, hc1, by omega⟩, Kp.set p h _⟩
  · have ga : vCmp .Gt (.int a) (.int 0) h = .ok (.bl false) h := by
      show Res.ok (Val.bl (decide (0 < a))) h = _
      rw [decide_eq_false ha]
    refine ⟨rfl, hd_by (v_ix e rfl) ⟨rfl, hd_by ga ⟨rfl, hd_by (v_ix e rfl) ⟨rfl, hd_by v_add ⟨rfl, ?_⟩⟩⟩⟩⟩
    rw [v_set e (j := 2) rfl]
    obtain ⟨h1, e1⟩ : ∃ h1, h1 = h.set p (.lst [.int a, .int b, .int (c + 1)]) := ⟨_, rfl⟩
    have hp1 : h1[p]? = some (.lst [.int a, .int b, .int (c + 1)]) := by rw [e1]; exact List.getElem?_set_self hlt
    have ec : ([Val.int a, .int b, .int c].set 2 (.int (c + 1))) = [.int a, .int b, .int (c + 1)] := rfl
    rw [ec, ← e1]
    obtain ⟨h2, e2⟩ : ∃ h2, h2 = h1 ++ [Ob.lst primes] := ⟨_, rfl⟩
    have hp2 : h2[p]? = some (.lst [.int a, .int b, .int (c + 1)]) := by rw [e2]; exact at_app hp1
    have hq : h2[h1.length]? = some (.lst primes) := by rw [e2]; exact at_end
    obtain ⟨q, eq, q1, q2⟩ := prime_at (c + 1)
    show _ ∧ _ ∧ _ ∧ _ ∧ _ ∧ _ ∧ _ ∧ Hd (vIx (.loc p) (.int 2) (h1 ++ [Ob.lst primes])) _ _
    rw [← e2]
    have hc3 : c + 1 < 2 ^ 61 := by omega
    have m1 := log_mul (i := A) (j := c + 1) (k := 60) (l := 61) hA.1 hA.2 (by omega) hc3
    have m2 := log_mul (k := 60 + 61) (l := 61) m1.1 m1.2 (by omega : 0 ≤ c + 1) hc3
    have lA := log_lt (k := 60) hA.1 hA.2 (by omega)
    have lc := log_lt (k := 61) (by omega : 0 ≤ c + 1) hc3 (by omega)
    have l1 := log_lt m1.1 m1.2 (by omega)
    have hs0 : 0 ≤ b + A * (c + 1) * (c + 1) + B := by
      have := m2.1
      omega
    have hs1 : b + A * (c + 1) * (c + 1) + B < 2 ^ 200 := by
      have := m2.2
      have := hB.2
      omega
    have ls := log_lt hs0 hs1 (by omega)
    refine ⟨rfl, rfl, rfl, rfl, rfl, by decide, rfl, hd_by (v_ix hp2 rfl) (hd_by (v := .int (c + 1)) rfl ⟨rfl, hd_by (v_mod (by omega)) (hd_by (v_ix hq eq) ⟨rfl, hd_by (v_ix hp2 rfl) ⟨rfl, rfl, hd_by (v_ix hp2 rfl) (hd_by (v_mul (by omega) (by omega)) ⟨rfl, hd_by (v_ix hp2 rfl) (hd_by (v_mul (by omega) (by omega)) (hd_by v_add ⟨rfl, hd_by v_add (hd_by (v := .int (b + A * (c + 1) * (c + 1) + B)) rfl ⟨rfl, ?_⟩)⟩))⟩)⟩⟩)⟩)⟩
    have lS : (b + A * (c + 1) * (c + 1) + B).natAbs.log2 < 100000 := by omega
    generalize b + A * (c + 1) * (c + 1) + B = S at lS ⊢
    have hP := v_pow3 (h := h2) lS
    generalize S ^ 3 = T at hP
    rw [hP]
    refine hd_by rfl (hd_by (v := .int T) rfl (hd_by (v_mod (by omega)) ?_))
    have hm0 : 0 ≤ T.fmod q := Int.fmod_nonneg_of_pos _ q1
    have hm1 : T.fmod q < 2 ^ 31 := Int.lt_trans (Int.fmod_lt_of_pos _ q1) q2
    generalize T.fmod q = m at hm0 hm1 ⊢
    have hk0 : 0 ≤ m.fmod C := Int.fmod_nonneg_of_pos _ hC.1
    have hk1 : m.fmod C < 2 ^ 60 := Int.lt_trans (Int.fmod_lt_of_pos _ hC.1) hC.2
    have m3 := log_mul (k := 60) (l := 61) hD.1 hD.2 (by omega : 0 ≤ c + 1) hc3
    have lD := log_lt (k := 60) hD.1 hD.2 (by omega)
    have lm := log_lt (k := 31) hm0 hm1 (by omega)
    have lt := log_lt (i := m.fmod C + D * (c + 1)) (k := 122) (by have := m3.1; omega) (by have := m3.2; omega) (by omega)
    show Hd (vBi .int [.int m] h2) _ _
    refine hd_by (v := .int m) rfl ⟨rfl, hd_by (v_mod (by omega)) ⟨rfl, rfl, hd_by (v_ix hp2 rfl) (hd_by (v_mul (by omega) (by omega)) (hd_by v_add (hd_by (v_mul (by omega) (by omega)) (hd_by (v := .int _) rfl ⟨rfl, hd_by (v_mod (by omega)) ⟨rfl, hd_by (v_div ⟨by omega, by decide⟩) (hd_by (v := .int _) rfl (hd_by (v_mod (by omega)) ⟨_, rfl, Int.fmod_nonneg_of_pos _ hu, Int.fmod_lt_of_pos _ hu, ⟨a, b, c + 1, hp2, hb1, hb2, by omega, by omega⟩, ?_⟩))⟩⟩))))⟩⟩
    rw [e2, e1]
    exact (Kp.set p h _).trans (Kp.app p _ _)
end
end Mi

set_option Elab.async false
set_option linter.all false
set_option maxRecDepth 100000
set_option maxHeartbeats 1000000
/-! L2: a drawn item, the pot itself, the cells, the law's end. -/
namespace Mi
open PySem L2
section
variable {G : Prg} {d kt ko : Nat} {A B C D : Int}
/-- the constants of a draw -/
structure TkOk (G : Prg) (kt : Nat) (A B C D : Int) : Prop where
  at_ : G.defs[kt]? = some ⟨2, 5, takeB A B C D⟩
  a : 0 ≤ A ∧ A < 2 ^ 60
  b : 0 ≤ B ∧ B < 2 ^ 60
  c : 0 < C ∧ C < 2 ^ 60
  d : 0 ≤ D ∧ D < 2 ^ 60
theorem x_tk (T : TkOk G kt A B C D) {h : LH} {p n : Nat} {u : Int} {E : EP} (hp : Pot h p n) (hn : n < 2 ^ 60) (hu : 0 < u) (hu2 : u < 2 ^ 60) {Q : Val → LH → Prop} (k : ∀ (r : Int) (h' : LH), 0 ≤ r → r < u → Pot h' p (n + 1) → Kp p h h' → Q (.int r) h') :
    XC G d kt [.loc p, .int u] h Q E := (x_take T.at_ T.a T.b T.c T.d hp hn hu hu2).monoQ fun v h' ⟨r, e, h1, h2, h3, h4⟩ => by rw [e]; exact k r h' h1 h2 h3 h4
theorem at_nat {xs : List Val} {r : Int} (h0 : 0 ≤ r) (h1 : r < xs.length) : ∃ v, atI xs r = some v ∧ v ∈ xs := by
  obtain ⟨k, rfl⟩ := Int.eq_ofNat_of_zero_le h0
  have hk : k < xs.length := by omega
  exact ⟨xs[k], atI_nat (List.getElem?_eq_getElem hk), List.getElem_mem hk⟩
def pickB (kt : Nat) : List IS := [.ret (some (.ix (.var 1) (.cal kt [(.var 0), (.blt .len [(.var 1)])])))]
theorem x_of (T : TkOk G kt A B C D) (hG : G.defs[ko]? = some ⟨2, 2, pickB kt⟩) {h : LH} {p q n : Nat} {xs : List Val} {E : EP} (hd : 1 ≤ d) (hp : Pot h p n) (hn : n < 2 ^ 60) (hq : h[q]? = some (.lst xs)) (hne : q ≠ p) (h0 : xs ≠ []) (hl : xs.length < 2 ^ 60) {Q : Val → LH → Prop}
    (k : ∀ (v : Val) (h' : LH), v ∈ xs → Pot h' p (n + 1) → Kp p h h' → Q v h') : XC G d ko [.loc p, .loc q] h Q E := by
  refine xc hG rfl ?_
  simp only [pickB, wS, wS1, w, wL, List.map_cons, List.map_nil, List.cons_append, List.nil_append, List.getElem?_cons_zero, List.getElem?_cons_succ]
  have hlen : 0 < xs.length := List.length_pos_iff.mpr h0
  refine ⟨hd, hd_by (v := .int xs.length) (h := h) ?_ ?_⟩
  · show ofO ((lenO (.loc q) h).map fun (n : Nat) => Val.int (n : Int)) h = _
    unfold lenO
    dsimp only
    rw [hq]
    rfl
  · refine x_tk T hp hn (by omega) (by omega) fun r h' h1 h2 h3 h4 => ?_
    obtain ⟨v, e, m⟩ := at_nat h1 h2
    exact hd_by (v_ix (h4.2 q _ hne hq) e) (k v h' m h3 h4)
/-! ### the pot -/
def potB (c1 c2 A B C : Int) : List IS := [.asg (.nm 2) (.ife (.cmp .Lt (.var 1) (.blt .len [(.var 0)])) (.ix (.var 0) (.var 1)) (.bin .Add (.bin .Mult (.cst (.int c1)) (.var 1)) (.cst (.int c2)))), .asg (.nm 3) (.bin .Mult (.bin .Mod (.blt .int [(.blt .abs [(.var 2)])]) (.bin .Pow (.bin .Pow (.cst (.int 10)) (.cst (.int 60))) (.cst (.int 5)))) (.blt .int [(.cmp .GtE (.blt .abs [(.var 2)]) (.bin .Pow (.cst (.int 10)) (.cst (.int 18))))])), .asg (.nm 4) (.bin .Mod (.blt .int [(.var 2)]) (.cst (.int 2305843009213693951))), .ret (some (.ls [(.var 3), (.bin .Mod (.blt .int [(.bin .Add (.bin .Add (.bin .Mult (.var 4) (.cst (.int A))) (.bin .Mult (.bin .Mult (.cst (.int B)) (.var 1)) (.var 1))) (.cst (.int C)))]) (.cst (.int 2305843009213693921))), (.cst (.int 0))]))]
structure PtOk (G : Prg) (kp : Nat) (c1 c2 A B C : Int) : Prop where
  at_ : G.defs[kp]? = some ⟨2, 5, potB c1 c2 A B C⟩
  c1 : 0 ≤ c1 ∧ c1 < 2 ^ 60
  a : 0 ≤ A ∧ A < 2 ^ 60
  b : 0 ≤ B ∧ B < 2 ^ 60
theorem v_pow {h : LH} {i j : Int} (hi : 0 ≤ j ∧ (i.natAbs.log2 + 1 : Int) * j ≤ 2 ^ 27) : vBin .Pow (.int i) (.int j) h = .ok (.int (i ^ j.toNat)) h := by
  unfold vBin vPow
  dsimp only
  rw [decide_eq_true hi]
  rfl
theorem x_pot {kp : Nat} {c1 c2 : Int} (T : PtOk G kp c1 c2 A B C) {h : LH} {ns : List Int} {k : Nat} {E : EP} (hk : k < 64) (hl : ns.length ≤ 63) {Q : Val → LH → Prop}
    (q : ∀ o, Pot (h ++ [o]) h.length 0 → Q (.loc h.length) (h ++ [o])) : XC G d kp [.cl (ns.map .int), .int k] h Q E := by
  refine xc T.at_ rfl ?_
  simp only [potB, wS, wS1, w, wL, tbl, List.map_cons, List.map_nil, List.cons_append, List.nil_append, List.getElem?_cons_zero, List.getElem?_cons_succ, bindT, List.length_cons, List.length_nil, Nat.reduceAdd, Nat.reduceSub, List.replicate, List.set_cons_zero, List.set_cons_succ]
  refine hd_by (v := .int ns.length) (h := h) ?_ (hd_by (v := .bl (decide ((k : Int) < ns.length))) (h := h) rfl ?_)
  · show ofO (some (Val.int ((ns.map Val.int).length : Int))) h = _
    rw [List.length_map]
    rfl
  · have hcell : ∃ c : Int, ∀ (P : Val → LH → Prop), P (.int c) h → (match decide ((k : Int) < ns.length) with
        | true => Hd (vIx (.cl (ns.map .int)) (.int k) h) P E
        | false => noLoc (.int c1) = true ∧ Hd (vBin .Mult (.int c1) (.int k) h) (fun v h1 => noLoc (.int c2) = true ∧ Hd (vBin .Add v (.int c2) h1) P E) E) := by
      by_cases hb : (k : Int) < ns.length
      · rw [decide_eq_true hb]
        have hk2 : k < ns.length := by omega
        refine ⟨ns[k], fun P z => hd_by ?_ z⟩
        show ofO (atI (ns.map Val.int) k) h = _
        rw [atI_nat (v := Val.int ns[k]) (by rw [List.getElem?_map, List.getElem?_eq_getElem hk2]; rfl)]
        rfl
      · rw [decide_eq_false hb]
        exact ⟨c1 * k + c2, fun P z => ⟨rfl, hd_by (v_mul (Nat.lt_trans (log_lt (k := 60) T.c1.1 T.c1.2 (by omega)) (by omega)) (Nat.lt_trans (log_lt (i := k) (k := 60) (by omega) (by omega) (by omega)) (by omega))) ⟨rfl, hd_by v_add z⟩⟩⟩
    obtain ⟨c, hc⟩ := hcell
    refine hc _ ?_
    obtain ⟨ca, eca⟩ : ∃ ca : Int, vBi .abs [.int c] h = .ok (.int ca) h := ⟨_, rfl⟩
    refine hd_by eca (hd_by (v := .int ca) rfl ⟨rfl, rfl, hd_by (v_pow (by decide +kernel)) ⟨rfl, hd_by (v_pow (by decide +kernel)) ?_⟩⟩)
    have hM : 0 < ((10 : Int) ^ (60 : Int).toNat) ^ (5 : Int).toNat ∧ ((10 : Int) ^ (60 : Int).toNat) ^ (5 : Int).toNat < 2 ^ 1000 := by decide +kernel
    generalize ((10 : Int) ^ (60 : Int).toNat) ^ (5 : Int).toNat = M at hM ⊢
    refine hd_by (v_mod (by omega)) (hd_by eca ⟨rfl, rfl, hd_by (v_pow (by decide +kernel)) ?_⟩)
    generalize (10 : Int) ^ (18 : Int).toNat = M2
    have ho0 : 0 ≤ ca.fmod M := Int.fmod_nonneg_of_pos _ hM.1
    have ho1 : ca.fmod M < 2 ^ 1000 := Int.lt_trans (Int.fmod_lt_of_pos _ hM.1) hM.2
    have lo := log_lt ho0 ho1 (by omega)
    obtain ⟨b1, eb1, lb1⟩ : ∃ b1 : Int, vBi .int [.bl (decide (ca ≥ M2))] h = .ok (.int b1) h ∧ b1.natAbs.log2 < 10 := by
      refine ⟨if decide (ca ≥ M2) then 1 else 0, rfl, ?_⟩
      split <;> decide
    refine hd_by (v := .bl (decide (ca ≥ M2))) (h := h) rfl (hd_by eb1 (hd_by (v_mul (by omega) (by omega)) (hd_by (v := .int c) rfl ⟨rfl, hd_by (v_mod (by omega)) ⟨rfl, hd_by (v_mul ?_ ?_) ⟨rfl, hd_by (v_mul ?_ ?_) (hd_by (v_mul ?_ ?_) (hd_by v_add ⟨rfl, hd_by v_add (hd_by (v := .int _) rfl ⟨rfl, hd_by (v_mod (by omega)) ⟨rfl, by decide, q _ ⟨_, _, _, at_end, Int.fmod_nonneg_of_pos _ (by omega), Int.lt_trans (Int.fmod_lt_of_pos _ (by omega)) (by omega), Int.le_refl _, by omega⟩⟩⟩)⟩))⟩⟩⟩)))
    · exact Nat.lt_trans (log_lt (k := 62) (Int.fmod_nonneg_of_pos _ (by omega)) (Int.lt_trans (Int.fmod_lt_of_pos _ (by omega)) (by omega)) (by omega)) (by omega)
    · exact Nat.lt_trans (log_lt (k := 60) T.a.1 T.a.2 (by omega)) (by omega)
    · exact Nat.lt_trans (log_lt (k := 60) T.b.1 T.b.2 (by omega)) (by omega)
    · exact Nat.lt_trans (log_lt (i := k) (k := 60) (by omega) (by omega) (by omega)) (by omega)
    · have m := log_mul (k := 60) (l := 60) T.b.1 T.b.2 (by omega : 0 ≤ (k : Int)) (by omega)
      exact Nat.lt_trans (log_lt m.1 m.2 (by omega)) (by omega)
    · exact Nat.lt_trans (log_lt (i := k) (k := 60) (by omega) (by omega) (by omega)) (by omega)
/-! ### the cells -/
def cellsB : List IS := [.ret (some (.lrg (.blt .max2 [(.cst (.int 1)), (.blt .min2 [(.var 1), (.blt .len [(.var 0)])])])))]
def rng0 (m : Nat) : List Val := (List.range m).map fun (i : Nat) => Val.int (i : Int)
theorem x_cells {kc : Nat} (hG : G.defs[kc]? = some ⟨2, 2, cellsB⟩) {h : LH} {ns : List Int} {l : Nat} {E : EP} (hl : ns.length ≤ 63) {Q : Val → LH → Prop}
    (q : ∀ m : Nat, 1 ≤ m → m ≤ max 1 l → m ≤ 63 → Q (.loc h.length) (h ++ [.lst (rng0 m)])) : XC G d kc [.cl (ns.map .int), .int l] h Q E := by
  refine xc hG rfl ?_
  simp only [cellsB, wS, wS1, w, wL, tbl, List.map_cons, List.map_nil, List.cons_append, List.nil_append, List.getElem?_cons_zero, List.getElem?_cons_succ, bindT, List.length_cons, List.length_nil, Nat.reduceAdd, Nat.reduceSub, List.replicate, List.set_cons_zero, List.set_cons_succ]
  refine ⟨rfl, hd_by (v := .int ns.length) (h := h) ?_ (hd_by (v := Val.int ((min l ns.length : Nat) : Int)) (h := h) ?_ (hd_by (v := Val.int ((max 1 (min l ns.length) : Nat) : Int)) (h := h) ?_ (And.intro (by omega) ?_)))⟩
  · show ofO (some (Val.int ((ns.map Val.int).length : Int))) h = _
    rw [List.length_map]
    rfl
  · show Res.ok (Val.int (if (ns.length : Int) < (l : Int) then (ns.length : Int) else (l : Int))) h = _
    congr 2
    split <;> omega
  · show Res.ok (Val.int (if ((min l ns.length : Nat) : Int) > 1 then ((min l ns.length : Nat) : Int) else 1)) h = _
    congr 2
    split <;> omega
  · exact q (max 1 (min l ns.length)) (by omega) (by omega) (by omega)
/-! ### the law's end: all([right(pot(script, place)) for place in cells(script, l)]) -/
def lawB (kp kc kr : Nat) (l : Int) : List IS := [.ret (some (.blt .all [(.lc (.nm 1) 0 [(.cal kc [(.var 0), (.cst (.int l))])] [] (.cal kr [(.cal kp [(.var 0), (.var 1)])]) [1])]))]
theorem bls_rep : ∀ n : Nat, blsOf (List.replicate n (.bl true)) = some (List.replicate n true)
  | 0 => rfl
  | n + 1 => by
    show (blsOf (List.replicate n (.bl true))).map (true :: ·) = _
    rw [bls_rep n]
    rfl
theorem x_law {kp kc kr kl : Nat} {c1 c2 : Int} (T : PtOk G kp c1 c2 A B C) (hc : G.defs[kc]? = some ⟨2, 2, cellsB⟩) {l : Nat} (hl : l ≤ 63) (hG : G.defs[kl]? = some ⟨1, 2, lawB kp kc kr l⟩) (hd : 1 ≤ d)
    (hr : ∀ (h : LH) (p : Nat), Pot h p 0 → XC G (d - 1) kr [.loc p] h (fun v h' => v = .bl true ∧ Kp p h h') noX) {ns : List Int} (hn : ns.length ≤ 63) : XC G d kl [.cl (ns.map .int)] [] (fun v _ => v = .bl true) noX := by
  refine xc hG rfl ?_
  simp only [lawB, wS, wS1, w, wL, tbl, List.map_cons, List.map_nil, List.cons_append, List.nil_append, List.getElem?_cons_zero, List.getElem?_cons_succ, bindT, List.length_cons, List.length_nil, Nat.reduceAdd, Nat.reduceSub, List.replicate, List.set_cons_zero, List.set_cons_succ]
  refine ⟨hd, rfl, x_cells hc hn fun m h1 h2 h3 => ⟨.seq (.loc 0), rfl, ?_⟩⟩
  show XLc G d (.nm 1) [] _ _ _ 0 1 _ [Ob.lst (rng0 m), .lst []] _ _
  refine xl_inv m (fun i h => h[0]? = some (.lst (rng0 m)) ∧ h[1]? = some (.lst (List.replicate i (.bl true)))) ⟨rfl, rfl⟩ (fun i h hi k => ?_) fun h k => ?_
  · have hit : (rng0 m)[i]? = some (.int i) := by
      unfold rng0
      rw [List.getElem?_map, List.getElem?_range hi]
      rfl
    refine ⟨.int i, [some (.cl (ns.map .int)), some (.int i)], ?_, rfl, ?_⟩
    · show (match seqL (.loc 0) h with
        | some xs => some xs[i]?
        | none => match seqT (.loc 0) with
          | some xs => some xs[i]?
          | none => none) = _
      unfold seqL
      dsimp only
      rw [k.1]
      dsimp only
      rw [hit]
    · simp only [w, wL, List.getElem?_cons_zero, List.getElem?_cons_succ]
      refine ⟨hd, hd, x_pot T (by omega) hn fun o hp => ?_⟩
      refine (hr _ _ hp).monoQ fun v h' ⟨ev, kk⟩ => ?_
      have l0 := (List.getElem?_eq_some_iff.mp k.1).1
      have l1 := (List.getElem?_eq_some_iff.mp k.2).1
      have k1 := kk.2 0 _ (by omega) (at_app k.1)
      have k2 := kk.2 1 _ (by omega) (at_app k.2)
      refine ⟨_, k2, ?_, ?_, ?_⟩
      · rw [List.length_replicate]
        exact Nat.lt_of_lt_of_le hi (Nat.le_trans h3 (by decide))
      · rw [List.getElem?_set_ne (by decide)]
        exact k1
      · rw [ev]
        rw [List.getElem?_set_self (List.getElem?_eq_some_iff.mp k2).1, ← List.replicate_succ']
  · refine ⟨?_, hd_by (v := Val.bl true) (h := h) ?_ rfl⟩
    · show (match seqL (.loc 0) h with
        | some xs => some xs[m]?
        | none => match seqT (.loc 0) with
          | some xs => some xs[m]?
          | none => none) = _
      unfold seqL
      dsimp only
      rw [k.1]
      dsimp only
      rw [List.getElem?_eq_none (by unfold rng0; simp)]
    · show (match (seqL (.loc 1) h).bind blsOf with
        | some bs => Res.ok (Val.bl (bs.all id)) h
        | none => .bad) = _
      unfold seqL
      dsimp only
      rw [k.2]
      show (match blsOf (List.replicate m (.bl true)) with
        | some bs => Res.ok (Val.bl (bs.all id)) h
        | none => .bad) = _
      rw [bls_rep]
      dsimp only
      congr 2
      simp
end
end Mi

set_option Elab.async false
set_option linter.all false
set_option maxRecDepth 100000
set_option maxHeartbeats 1000000
/-! LC: small facts for walks. -/
namespace Mi
open PySem L2
theorem rh_get {k : Nat} : ∀ {h h' : LH} {m : Nat} {o : Ob}, Rh k h h' → h[m]? = some o → ∃ o', h'[m]? = some o' ∧ Rob k o o'
  | _, _, _, _, .nil, e => by simp at e
  | _, _, 0, _, .cons a _, e => by
    simp at e
    subst e
    exact ⟨_, rfl, a⟩
  | _, _, m + 1, o, .cons _ r, e => by
    obtain ⟨o', e1, e2⟩ := rh_get (m := m) (o := o) r (by simpa using e)
    exact ⟨o', by simpa using e1, e2⟩
/-- nothing that stood is changed -/
def Xt (h h' : LH) : Prop := h.length ≤ h'.length ∧ ∀ (q : Nat) (o : Ob), h[q]? = some o → h'[q]? = some o
theorem Xt.kp {p : Nat} {h h' : LH} (x : Xt h h') : Kp p h h' := ⟨x.1, fun q o _ e => x.2 q o e⟩
theorem Xt.app (h l : LH) : Xt h (h ++ l) := ⟨by simp, fun q o e => at_app e⟩
theorem Xt.trans {h h1 h2 : LH} (a : Xt h h1) (b : Xt h1 h2) : Xt h h2 := ⟨Nat.le_trans a.1 b.1, fun q o e => b.2 q o (a.2 q o e)⟩
theorem v_ext {h : LH} {n m : Nat} {xs zs : List Val} (hn : h[n]? = some (.lst xs)) (hm : h[m]? = some (.lst zs)) (hl : xs.length + zs.length ≤ sizeLine) : vMt .extend (.loc n) [.loc m] h = .ok .non (h.set n (.lst (xs ++ zs))) := by
  unfold vMt
  dsimp only
  rw [hn, hm]
  dsimp only
  rw [decide_eq_true hl]
  rfl
theorem ok_lst {h : LH} {n : Nat} {xs : List Val} {m : Mt} (hn : h[n]? = some (.lst xs)) : okTy m (.loc n) h = true := by
  unfold okTy
  cases m <;> (dsimp only; unfold seqL; dsimp only; rw [hn]; rfl)
theorem ap_at (h t : LH) (i : Nat) : (h ++ t)[h.length + i]? = t[i]? := by
  rw [List.getElem?_append_right (by omega), show h.length + i - h.length = i by omega]
theorem ap_at0 (h t : LH) : (h ++ t)[h.length]? = t[0]? := ap_at h t 0
theorem ap_set (h t : LH) (i : Nat) (o : Ob) : (h ++ t).set (h.length + i) o = h ++ t.set i o := by
  induction h with
  | nil => simp
  | cons a h ih =>
    show (a :: (h ++ t)).set (h.length + 1 + i) o = a :: (h ++ t.set i o)
    rw [show h.length + 1 + i = (h.length + i) + 1 by omega, List.set_cons_succ, ih]
theorem ap_set0 (h t : LH) (o : Ob) : (h ++ t).set h.length o = h ++ t.set 0 o := ap_set h t 0 o
theorem toR_lst {h : LH} {m n : Nat} {xs : List Val} (e : h[m]? = some (.lst xs)) : toR (n + 1) h (.loc m) = (mapO (toR n h) xs).map .list := by
  show (match h[m]? with
    | some (.lst xs) => (mapO (toR n h) xs).map PyData.list
    | some (.dK kvs) => (mapKv (toR n h) kvs).map .dict
    | _ => none) = _
  rw [e]
theorem toR_dK {h : LH} {m n : Nat} {xs : List (Key × Val)} (e : h[m]? = some (.dK xs)) : toR (n + 1) h (.loc m) = (mapKv (toR n h) xs).map .dict := by
  show (match h[m]? with
    | some (.lst xs) => (mapO (toR n h) xs).map PyData.list
    | some (.dK kvs) => (mapKv (toR n h) kvs).map .dict
    | _ => none) = _
  rw [e]
/-- what is younger stays -/
def Ky (k : Nat) (h h' : LH) : Prop := h.length ≤ h'.length ∧ ∀ (q : Nat) (o : Ob), k ≤ q → h[q]? = some o → h'[q]? = some o
theorem Ky.refl (k : Nat) (h : LH) : Ky k h h := ⟨Nat.le_refl _, fun _ _ _ e => e⟩
theorem Ky.trans {k : Nat} {h h1 h2 : LH} (a : Ky k h h1) (b : Ky k h1 h2) : Ky k h h2 := ⟨Nat.le_trans a.1 b.1, fun q o n e => b.2 q o n (a.2 q o n e)⟩
theorem Kp.ky {k p : Nat} {h h1 : LH} (a : Kp p h h1) (hk : p < k) : Ky k h h1 := ⟨a.1, fun q o n e => a.2 q o (by omega) e⟩
theorem Ky.up {k l : Nat} {h h1 : LH} (a : Ky k h h1) (hk : k ≤ l) : Ky l h h1 := ⟨a.1, fun q o n e => a.2 q o (by omega) e⟩
theorem Ky.set {k q : Nat} {h : LH} {o : Ob} (hq : q < k) : Ky k h (h.set q o) := ⟨by simp, fun r o' n e => by rw [List.getElem?_set_ne (by omega)]; exact e⟩
theorem Kp.setNew {p D : Nat} {h h1 : LH} {o : Ob} (a : Kp p h h1) (hD : h.length ≤ D) : Kp p h (h1.set D o) := ⟨by have := a.1; simpa using this, fun q o' n e => by
  have := (List.getElem?_eq_some_iff.mp e).1
  rw [List.getElem?_set_ne (by omega)]
  exact a.2 q o' n e⟩
theorem ne_str {s : Str} {h : LH} : vCmp .NotEq (.str s) (.str s) h = .ok (.bl false) h := by
  show ofB ((eqB (.str s) (.str s) h).map (!·)) h = _
  unfold eqB
  have e : scl (.str s) (.str s) = some true := by
    show some (decide (s = s)) = _
    simp
  rw [e]
  rfl
theorem toD_lst {h : LH} {m n : Nat} {xs : List Val} (e : h[m]? = some (.lst xs)) : toD (n + 1) h (.loc m) = (mapO (toD n h) xs).map .list := by
  show (match h[m]? with
    | some (.lst xs) => (mapO (toD n h) xs).map PyData.list
    | _ => none) = _
  rw [e]
theorem item_lst {h : LH} {q i : Nat} {xs : List Val} (e : h[q]? = some (.lst xs)) : item (.seq (.loc q)) i h = some xs[i]? := by
  show (match seqL (.loc q) h with
    | some xs => some xs[i]?
    | none => match seqT (.loc q) with
      | some xs => some xs[i]?
      | none => none) = _
  unfold seqL
  dsimp only
  rw [e]
theorem mk_lst {h : LH} {q : Nat} {xs : List Val} (e : h[q]? = some (.lst xs)) : mkSrc 0 [.loc q] h = some (.seq (.loc q)) := by
  have es : seqL (.loc q) h = some xs := by
    unfold seqL
    dsimp only
    rw [e]
  show (if ((seqL (.loc q) h).isSome || (seqT (.loc q)).isSome) then some (Src.seq (.loc q)) else none) = _
  rw [es]
  rfl
end Mi

set_option Elab.async false
set_option linter.all false
set_option maxRecDepth 100000
set_option maxHeartbeats 0
namespace Lw
open PySem PySem.Spec PyProof.Rows L2 Mi
def top (i : Nat) : Stmt := PySem.Challenge.pw_somepoured_k00_errors_keep_their_value.main.body.getD i (.Pass ⟨0, 0, 0, 0⟩)
abbrev R : PySem.W.OpenRow := PySem.W.OpenLaw.row PySem.Challenge.rw_somepoured_k00_errors_keep_their_value
abbrev s__law_pot : Stmt := top 26
def d__law_pot : He.DefD := ⟨("_law_pot", none), "_law_pot", "_law_pot", defArgs s__law_pot, defBody s__law_pot, defScope s__law_pot, [], []⟩
def n__law_pot : List Str := ["_law_script", "_law_k", "_law_cell", "_law_own", "_law_small"]
def p__law_pot : List Str := ["_law_script", "_law_k"]
abbrev s__law_take : Stmt := top 27
def d__law_take : He.DefD := ⟨("_law_take", none), "_law_take", "_law_take", defArgs s__law_take, defBody s__law_take, defScope s__law_take, [], []⟩
def n__law_take : List Str := ["_law_pot_here", "_law_upto", "_law_prime", "_law_blend", "_law_digit"]
def p__law_take : List Str := ["_law_pot_here", "_law_upto"]
abbrev s__law_of : Stmt := top 28
def d__law_of : He.DefD := ⟨("_law_of", none), "_law_of", "_law_of", defArgs s__law_of, defBody s__law_of, defScope s__law_of, [], []⟩
def n__law_of : List Str := ["_law_pot_here", "_law_some"]
def p__law_of : List Str := ["_law_pot_here", "_law_some"]
abbrev s__law_cells : Stmt := top 29
def d__law_cells : He.DefD := ⟨("_law_cells", none), "_law_cells", "_law_cells", defArgs s__law_cells, defBody s__law_cells, defScope s__law_cells, [], []⟩
def n__law_cells : List Str := ["_law_script", "_law_limit"]
def p__law_cells : List Str := ["_law_script", "_law_limit"]
abbrev s__law_odd : Stmt := top 30
def d__law_odd : He.DefD := ⟨("_law_odd", none), "_law_odd", "_law_odd", defArgs s__law_odd, defBody s__law_odd, defScope s__law_odd, [], []⟩
def n__law_odd : List Str := ["_law_pot_here", "_law_some"]
def p__law_odd : List Str := ["_law_pot_here"]
abbrev s__law_errors : Stmt := top 31
def d__law_errors : He.DefD := ⟨("_law_errors", none), "_law_errors", "_law_errors", defArgs s__law_errors, defBody s__law_errors, defScope s__law_errors, [], []⟩
def n__law_errors : List Str := ["_law_value", "_law_found"]
def p__law_errors : List Str := ["_law_value"]
abbrev s__law_some_kinds : Stmt := top 32
def d__law_some_kinds : He.DefD := ⟨("_law_some_kinds", none), "_law_some_kinds", "_law_some_kinds", defArgs s__law_some_kinds, defBody s__law_some_kinds, defScope s__law_some_kinds, [], []⟩
def n__law_some_kinds : List Str := ["_law_made", "_law_found", "_law_name", "_law_is_so"]
def p__law_some_kinds : List Str := ["_law_made"]
abbrev s__law_kinds : Stmt := top 33
def d__law_kinds : He.DefD := ⟨("_law_kinds", none), "_law_kinds", "_law_kinds", defArgs s__law_kinds, defBody s__law_kinds, defScope s__law_kinds, [], []⟩
def n__law_kinds : List Str := ["_law_made", "_law_found", "_law_name", "_law_is_so"]
def p__law_kinds : List Str := ["_law_made"]
abbrev s__law_right : Stmt := top 34
def d__law_right : He.DefD := ⟨("_law_right", none), "_law_right", "_law_right", defArgs s__law_right, defBody s__law_right, defScope s__law_right, [], []⟩
def n__law_right : List Str := ["_law_pot_here", "_law_value", "_law_plain", "_law_name", "_law_made", "_law_lap"]
def p__law_right : List Str := ["_law_pot_here"]
abbrev s_law : Stmt := top 35
def d_law : He.DefD := ⟨("law", none), "law", "law", defArgs s_law, defBody s_law, defScope s_law, [], []⟩
def n_law : List Str := ["_law_script", "_law_place"]
def p_law : List Str := ["_law_script"]
def fn : List He.DefD := [d__law_pot, d__law_take, d__law_of, d__law_cells, d__law_odd, d__law_errors, d__law_some_kinds, d__law_kinds, d__law_right, d_law]
def errs : List Str := ["PouredError", "BadPart", "BadText", "BadKitchen", "NoWater", "NoStep", "BadBehind", "BadLine", "Full", "BadWorld", "NoVessel", "Empty", "NotFree", "TooMany", "BadFacts", "BadBounds", "BadOffers", "BadWishes", "Unlike", "NothingToUndo", "NothingToRedo", "NoTrial", "BadJournal", "BadSay"]
def blts : List Str := ["ValueError", "abs", "all", "int", "isinstance", "len", "list", "max", "min", "range", "repr"]
def fa : List He.Fa := (["_law_pot", "_law_take", "_law_of", "_law_cells", "_law_odd", "_law_errors", "_law_some_kinds", "_law_kinds", "_law_right", "law"] : List Str).map He.Fa.glo ++ (errs.map He.Fa.glo ++ blts.map He.Fa.free)
def names : List Str := (["_law_pot", "_law_take", "_law_of", "_law_cells", "_law_odd", "_law_errors", "_law_some_kinds", "_law_kinds", "_law_right", "law"] : List Str) ++ errs
def tI : List (ClR × List (ClR × Bool)) := [(.own "PouredError", [(.own "PouredError", true), (.own "BadPart", false), (.own "BadText", false), (.own "BadKitchen", false), (.own "NoWater", false), (.own "NoStep", false), (.own "BadBehind", false), (.own "BadLine", false), (.own "Full", false), (.own "BadWorld", false), (.own "NoVessel", false), (.own "Empty", false), (.own "NotFree", false), (.own "TooMany", false), (.own "BadFacts", false), (.own "BadBounds", false), (.own "BadOffers", false), (.own "BadWishes", false), (.own "Unlike", false), (.own "NothingToUndo", false), (.own "NothingToRedo", false), (.own "NoTrial", false), (.own "BadJournal", false), (.own "BadSay", false), (.ty "ValueError", true)]),
  (.own "BadPart", [(.own "PouredError", true), (.own "BadPart", true), (.own "BadText", false), (.own "BadKitchen", false), (.own "NoWater", false), (.own "NoStep", false), (.own "BadBehind", false), (.own "BadLine", false), (.own "Full", false), (.own "BadWorld", false), (.own "NoVessel", false), (.own "Empty", false), (.own "NotFree", false), (.own "TooMany", false), (.own "BadFacts", false), (.own "BadBounds", false), (.own "BadOffers", false), (.own "BadWishes", false), (.own "Unlike", false), (.own "NothingToUndo", false), (.own "NothingToRedo", false), (.own "NoTrial", false), (.own "BadJournal", false), (.own "BadSay", false), (.ty "ValueError", true)]),
  (.own "BadText", [(.own "PouredError", true), (.own "BadPart", false), (.own "BadText", true), (.own "BadKitchen", false), (.own "NoWater", false), (.own "NoStep", false), (.own "BadBehind", false), (.own "BadLine", false), (.own "Full", false), (.own "BadWorld", false), (.own "NoVessel", false), (.own "Empty", false), (.own "NotFree", false), (.own "TooMany", false), (.own "BadFacts", false), (.own "BadBounds", false), (.own "BadOffers", false), (.own "BadWishes", false), (.own "Unlike", false), (.own "NothingToUndo", false), (.own "NothingToRedo", false), (.own "NoTrial", false), (.own "BadJournal", false), (.own "BadSay", false), (.ty "ValueError", true)]),
  (.own "BadKitchen", [(.own "PouredError", true), (.own "BadPart", false), (.own "BadText", false), (.own "BadKitchen", true), (.own "NoWater", false), (.own "NoStep", false), (.own "BadBehind", false), (.own "BadLine", false), (.own "Full", false), (.own "BadWorld", false), (.own "NoVessel", false), (.own "Empty", false), (.own "NotFree", false), (.own "TooMany", false), (.own "BadFacts", false), (.own "BadBounds", false), (.own "BadOffers", false), (.own "BadWishes", false), (.own "Unlike", false), (.own "NothingToUndo", false), (.own "NothingToRedo", false), (.own "NoTrial", false), (.own "BadJournal", false), (.own "BadSay", false), (.ty "ValueError", true)]),
  (.own "NoWater", [(.own "PouredError", true), (.own "BadPart", false), (.own "BadText", false), (.own "BadKitchen", false), (.own "NoWater", true), (.own "NoStep", false), (.own "BadBehind", false), (.own "BadLine", false), (.own "Full", false), (.own "BadWorld", false), (.own "NoVessel", false), (.own "Empty", false), (.own "NotFree", false), (.own "TooMany", false), (.own "BadFacts", false), (.own "BadBounds", false), (.own "BadOffers", false), (.own "BadWishes", false), (.own "Unlike", false), (.own "NothingToUndo", false), (.own "NothingToRedo", false), (.own "NoTrial", false), (.own "BadJournal", false), (.own "BadSay", false), (.ty "ValueError", true)]),
  (.own "NoStep", [(.own "PouredError", true), (.own "BadPart", false), (.own "BadText", false), (.own "BadKitchen", false), (.own "NoWater", false), (.own "NoStep", true), (.own "BadBehind", false), (.own "BadLine", false), (.own "Full", false), (.own "BadWorld", false), (.own "NoVessel", false), (.own "Empty", false), (.own "NotFree", false), (.own "TooMany", false), (.own "BadFacts", false), (.own "BadBounds", false), (.own "BadOffers", false), (.own "BadWishes", false), (.own "Unlike", false), (.own "NothingToUndo", false), (.own "NothingToRedo", false), (.own "NoTrial", false), (.own "BadJournal", false), (.own "BadSay", false), (.ty "ValueError", true)]),
  (.own "BadBehind", [(.own "PouredError", true), (.own "BadPart", false), (.own "BadText", false), (.own "BadKitchen", false), (.own "NoWater", false), (.own "NoStep", false), (.own "BadBehind", true), (.own "BadLine", false), (.own "Full", false), (.own "BadWorld", false), (.own "NoVessel", false), (.own "Empty", false), (.own "NotFree", false), (.own "TooMany", false), (.own "BadFacts", false), (.own "BadBounds", false), (.own "BadOffers", false), (.own "BadWishes", false), (.own "Unlike", false), (.own "NothingToUndo", false), (.own "NothingToRedo", false), (.own "NoTrial", false), (.own "BadJournal", false), (.own "BadSay", false), (.ty "ValueError", true)]),
  (.own "BadLine", [(.own "PouredError", true), (.own "BadPart", false), (.own "BadText", false), (.own "BadKitchen", false), (.own "NoWater", false), (.own "NoStep", false), (.own "BadBehind", false), (.own "BadLine", true), (.own "Full", false), (.own "BadWorld", false), (.own "NoVessel", false), (.own "Empty", false), (.own "NotFree", false), (.own "TooMany", false), (.own "BadFacts", false), (.own "BadBounds", false), (.own "BadOffers", false), (.own "BadWishes", false), (.own "Unlike", false), (.own "NothingToUndo", false), (.own "NothingToRedo", false), (.own "NoTrial", false), (.own "BadJournal", false), (.own "BadSay", false), (.ty "ValueError", true)]),
  (.own "Full", [(.own "PouredError", true), (.own "BadPart", false), (.own "BadText", false), (.own "BadKitchen", false), (.own "NoWater", false), (.own "NoStep", false), (.own "BadBehind", false), (.own "BadLine", false), (.own "Full", true), (.own "BadWorld", false), (.own "NoVessel", false), (.own "Empty", false), (.own "NotFree", false), (.own "TooMany", false), (.own "BadFacts", false), (.own "BadBounds", false), (.own "BadOffers", false), (.own "BadWishes", false), (.own "Unlike", false), (.own "NothingToUndo", false), (.own "NothingToRedo", false), (.own "NoTrial", false), (.own "BadJournal", false), (.own "BadSay", false), (.ty "ValueError", true)]),
  (.own "BadWorld", [(.own "PouredError", true), (.own "BadPart", false), (.own "BadText", false), (.own "BadKitchen", false), (.own "NoWater", false), (.own "NoStep", false), (.own "BadBehind", false), (.own "BadLine", false), (.own "Full", false), (.own "BadWorld", true), (.own "NoVessel", false), (.own "Empty", false), (.own "NotFree", false), (.own "TooMany", false), (.own "BadFacts", false), (.own "BadBounds", false), (.own "BadOffers", false), (.own "BadWishes", false), (.own "Unlike", false), (.own "NothingToUndo", false), (.own "NothingToRedo", false), (.own "NoTrial", false), (.own "BadJournal", false), (.own "BadSay", false), (.ty "ValueError", true)]),
  (.own "NoVessel", [(.own "PouredError", true), (.own "BadPart", false), (.own "BadText", false), (.own "BadKitchen", false), (.own "NoWater", false), (.own "NoStep", false), (.own "BadBehind", false), (.own "BadLine", false), (.own "Full", false), (.own "BadWorld", false), (.own "NoVessel", true), (.own "Empty", false), (.own "NotFree", false), (.own "TooMany", false), (.own "BadFacts", false), (.own "BadBounds", false), (.own "BadOffers", false), (.own "BadWishes", false), (.own "Unlike", false), (.own "NothingToUndo", false), (.own "NothingToRedo", false), (.own "NoTrial", false), (.own "BadJournal", false), (.own "BadSay", false), (.ty "ValueError", true)]),
  (.own "Empty", [(.own "PouredError", true), (.own "BadPart", false), (.own "BadText", false), (.own "BadKitchen", false), (.own "NoWater", false), (.own "NoStep", false), (.own "BadBehind", false), (.own "BadLine", false), (.own "Full", false), (.own "BadWorld", false), (.own "NoVessel", false), (.own "Empty", true), (.own "NotFree", false), (.own "TooMany", false), (.own "BadFacts", false), (.own "BadBounds", false), (.own "BadOffers", false), (.own "BadWishes", false), (.own "Unlike", false), (.own "NothingToUndo", false), (.own "NothingToRedo", false), (.own "NoTrial", false), (.own "BadJournal", false), (.own "BadSay", false), (.ty "ValueError", true)]),
  (.own "NotFree", [(.own "PouredError", true), (.own "BadPart", false), (.own "BadText", false), (.own "BadKitchen", false), (.own "NoWater", false), (.own "NoStep", false), (.own "BadBehind", false), (.own "BadLine", false), (.own "Full", false), (.own "BadWorld", false), (.own "NoVessel", false), (.own "Empty", false), (.own "NotFree", true), (.own "TooMany", false), (.own "BadFacts", false), (.own "BadBounds", false), (.own "BadOffers", false), (.own "BadWishes", false), (.own "Unlike", false), (.own "NothingToUndo", false), (.own "NothingToRedo", false), (.own "NoTrial", false), (.own "BadJournal", false), (.own "BadSay", false), (.ty "ValueError", true)]),
  (.own "TooMany", [(.own "PouredError", true), (.own "BadPart", false), (.own "BadText", false), (.own "BadKitchen", false), (.own "NoWater", false), (.own "NoStep", false), (.own "BadBehind", false), (.own "BadLine", false), (.own "Full", false), (.own "BadWorld", false), (.own "NoVessel", false), (.own "Empty", false), (.own "NotFree", false), (.own "TooMany", true), (.own "BadFacts", false), (.own "BadBounds", false), (.own "BadOffers", false), (.own "BadWishes", false), (.own "Unlike", false), (.own "NothingToUndo", false), (.own "NothingToRedo", false), (.own "NoTrial", false), (.own "BadJournal", false), (.own "BadSay", false), (.ty "ValueError", true)]),
  (.own "BadFacts", [(.own "PouredError", true), (.own "BadPart", false), (.own "BadText", false), (.own "BadKitchen", false), (.own "NoWater", false), (.own "NoStep", false), (.own "BadBehind", false), (.own "BadLine", false), (.own "Full", false), (.own "BadWorld", false), (.own "NoVessel", false), (.own "Empty", false), (.own "NotFree", false), (.own "TooMany", false), (.own "BadFacts", true), (.own "BadBounds", false), (.own "BadOffers", false), (.own "BadWishes", false), (.own "Unlike", false), (.own "NothingToUndo", false), (.own "NothingToRedo", false), (.own "NoTrial", false), (.own "BadJournal", false), (.own "BadSay", false), (.ty "ValueError", true)]),
  (.own "BadBounds", [(.own "PouredError", true), (.own "BadPart", false), (.own "BadText", false), (.own "BadKitchen", false), (.own "NoWater", false), (.own "NoStep", false), (.own "BadBehind", false), (.own "BadLine", false), (.own "Full", false), (.own "BadWorld", false), (.own "NoVessel", false), (.own "Empty", false), (.own "NotFree", false), (.own "TooMany", false), (.own "BadFacts", false), (.own "BadBounds", true), (.own "BadOffers", false), (.own "BadWishes", false), (.own "Unlike", false), (.own "NothingToUndo", false), (.own "NothingToRedo", false), (.own "NoTrial", false), (.own "BadJournal", false), (.own "BadSay", false), (.ty "ValueError", true)]),
  (.own "BadOffers", [(.own "PouredError", true), (.own "BadPart", false), (.own "BadText", false), (.own "BadKitchen", false), (.own "NoWater", false), (.own "NoStep", false), (.own "BadBehind", false), (.own "BadLine", false), (.own "Full", false), (.own "BadWorld", false), (.own "NoVessel", false), (.own "Empty", false), (.own "NotFree", false), (.own "TooMany", false), (.own "BadFacts", false), (.own "BadBounds", false), (.own "BadOffers", true), (.own "BadWishes", false), (.own "Unlike", false), (.own "NothingToUndo", false), (.own "NothingToRedo", false), (.own "NoTrial", false), (.own "BadJournal", false), (.own "BadSay", false), (.ty "ValueError", true)]),
  (.own "BadWishes", [(.own "PouredError", true), (.own "BadPart", false), (.own "BadText", false), (.own "BadKitchen", false), (.own "NoWater", false), (.own "NoStep", false), (.own "BadBehind", false), (.own "BadLine", false), (.own "Full", false), (.own "BadWorld", false), (.own "NoVessel", false), (.own "Empty", false), (.own "NotFree", false), (.own "TooMany", false), (.own "BadFacts", false), (.own "BadBounds", false), (.own "BadOffers", false), (.own "BadWishes", true), (.own "Unlike", false), (.own "NothingToUndo", false), (.own "NothingToRedo", false), (.own "NoTrial", false), (.own "BadJournal", false), (.own "BadSay", false), (.ty "ValueError", true)]),
  (.own "Unlike", [(.own "PouredError", true), (.own "BadPart", false), (.own "BadText", false), (.own "BadKitchen", false), (.own "NoWater", false), (.own "NoStep", false), (.own "BadBehind", false), (.own "BadLine", false), (.own "Full", false), (.own "BadWorld", false), (.own "NoVessel", false), (.own "Empty", false), (.own "NotFree", false), (.own "TooMany", false), (.own "BadFacts", false), (.own "BadBounds", false), (.own "BadOffers", false), (.own "BadWishes", false), (.own "Unlike", true), (.own "NothingToUndo", false), (.own "NothingToRedo", false), (.own "NoTrial", false), (.own "BadJournal", false), (.own "BadSay", false), (.ty "ValueError", true)]),
  (.own "NothingToUndo", [(.own "PouredError", true), (.own "BadPart", false), (.own "BadText", false), (.own "BadKitchen", false), (.own "NoWater", false), (.own "NoStep", false), (.own "BadBehind", false), (.own "BadLine", false), (.own "Full", false), (.own "BadWorld", false), (.own "NoVessel", false), (.own "Empty", false), (.own "NotFree", false), (.own "TooMany", false), (.own "BadFacts", false), (.own "BadBounds", false), (.own "BadOffers", false), (.own "BadWishes", false), (.own "Unlike", false), (.own "NothingToUndo", true), (.own "NothingToRedo", false), (.own "NoTrial", false), (.own "BadJournal", false), (.own "BadSay", false), (.ty "ValueError", true)]),
  (.own "NothingToRedo", [(.own "PouredError", true), (.own "BadPart", false), (.own "BadText", false), (.own "BadKitchen", false), (.own "NoWater", false), (.own "NoStep", false), (.own "BadBehind", false), (.own "BadLine", false), (.own "Full", false), (.own "BadWorld", false), (.own "NoVessel", false), (.own "Empty", false), (.own "NotFree", false), (.own "TooMany", false), (.own "BadFacts", false), (.own "BadBounds", false), (.own "BadOffers", false), (.own "BadWishes", false), (.own "Unlike", false), (.own "NothingToUndo", false), (.own "NothingToRedo", true), (.own "NoTrial", false), (.own "BadJournal", false), (.own "BadSay", false), (.ty "ValueError", true)]),
  (.own "NoTrial", [(.own "PouredError", true), (.own "BadPart", false), (.own "BadText", false), (.own "BadKitchen", false), (.own "NoWater", false), (.own "NoStep", false), (.own "BadBehind", false), (.own "BadLine", false), (.own "Full", false), (.own "BadWorld", false), (.own "NoVessel", false), (.own "Empty", false), (.own "NotFree", false), (.own "TooMany", false), (.own "BadFacts", false), (.own "BadBounds", false), (.own "BadOffers", false), (.own "BadWishes", false), (.own "Unlike", false), (.own "NothingToUndo", false), (.own "NothingToRedo", false), (.own "NoTrial", true), (.own "BadJournal", false), (.own "BadSay", false), (.ty "ValueError", true)]),
  (.own "BadJournal", [(.own "PouredError", true), (.own "BadPart", false), (.own "BadText", false), (.own "BadKitchen", false), (.own "NoWater", false), (.own "NoStep", false), (.own "BadBehind", false), (.own "BadLine", false), (.own "Full", false), (.own "BadWorld", false), (.own "NoVessel", false), (.own "Empty", false), (.own "NotFree", false), (.own "TooMany", false), (.own "BadFacts", false), (.own "BadBounds", false), (.own "BadOffers", false), (.own "BadWishes", false), (.own "Unlike", false), (.own "NothingToUndo", false), (.own "NothingToRedo", false), (.own "NoTrial", false), (.own "BadJournal", true), (.own "BadSay", false), (.ty "ValueError", true)]),
  (.own "BadSay", [(.own "PouredError", true), (.own "BadPart", false), (.own "BadText", false), (.own "BadKitchen", false), (.own "NoWater", false), (.own "NoStep", false), (.own "BadBehind", false), (.own "BadLine", false), (.own "Full", false), (.own "BadWorld", false), (.own "NoVessel", false), (.own "Empty", false), (.own "NotFree", false), (.own "TooMany", false), (.own "BadFacts", false), (.own "BadBounds", false), (.own "BadOffers", false), (.own "BadWishes", false), (.own "Unlike", false), (.own "NothingToUndo", false), (.own "NothingToRedo", false), (.own "NoTrial", false), (.own "BadJournal", false), (.own "BadSay", true), (.ty "ValueError", true)])]
def b__law_pot : List IS := [.asg (.nm 2) (.ife (.cmp .Lt (.var 1) (.blt .len [(.var 0)])) (.ix (.var 0) (.var 1)) (.bin .Add (.bin .Mult (.cst (.int 67)) (.var 1)) (.cst (.int 47)))), .asg (.nm 3) (.bin .Mult (.bin .Mod (.blt .int [(.blt .abs [(.var 2)])]) (.bin .Pow (.bin .Pow (.cst (.int 10)) (.cst (.int 60))) (.cst (.int 5)))) (.blt .int [(.cmp .GtE (.blt .abs [(.var 2)]) (.bin .Pow (.cst (.int 10)) (.cst (.int 18))))])), .asg (.nm 4) (.bin .Mod (.blt .int [(.var 2)]) (.cst (.int 2305843009213693951))), .ret (some (.ls [(.var 3), (.bin .Mod (.blt .int [(.bin .Add (.bin .Add (.bin .Mult (.var 4) (.cst (.int 64117))) (.bin .Mult (.bin .Mult (.cst (.int 8500)) (.var 1)) (.var 1))) (.cst (.int 107)))]) (.cst (.int 2305843009213693921))), (.cst (.int 0))]))]
def b__law_take : List IS := [.iff (.cmp .Gt (.ix (.var 0) (.cst (.int 0))) (.cst (.int 0))) [.asg (.nm 4) (.bin .Mod (.blt .int [(.ix (.var 0) (.cst (.int 0)))]) (.var 1)), .sub (.var 0) (.cst (.int 0)) (.bin .FloorDiv (.ix (.var 0) (.cst (.int 0))) (.var 1)), .ret (some (.var 4))] [], .sub (.var 0) (.cst (.int 2)) (.bin .Add (.ix (.var 0) (.cst (.int 2))) (.cst (.int 1))), .asg (.nm 2) (.ix (.ls [(.cst (.int 2147483647)), (.cst (.int 2147483629)), (.cst (.int 2147483587)), (.cst (.int 2147483579)), (.cst (.int 2147483563))]) (.bin .Mod (.blt .int [(.ix (.var 0) (.cst (.int 2)))]) (.cst (.int 5)))), .asg (.nm 3) (.bin .Mod (.blt .int [(.bin .Pow (.blt .int [(.bin .Add (.bin .Add (.ix (.var 0) (.cst (.int 1))) (.bin .Mult (.bin .Mult (.cst (.int 100403)) (.ix (.var 0) (.cst (.int 2)))) (.ix (.var 0) (.cst (.int 2))))) (.cst (.int 35)))]) (.cst (.int 3)))]) (.var 2)), .asg (.nm 3) (.bin .Mod (.blt .int [(.bin .Mult (.var 3) (.bin .Add (.bin .Mod (.blt .int [(.var 3)]) (.cst (.int 10037))) (.bin .Mult (.cst (.int 87)) (.ix (.var 0) (.cst (.int 2))))))]) (.cst (.int 2305843009213693907))), .ret (some (.bin .Mod (.blt .int [(.bin .FloorDiv (.var 3) (.cst (.int 151)))]) (.var 1)))]
def b__law_of : List IS := [.ret (some (.ix (.var 1) (.cal 1 [(.var 0), (.blt .len [(.var 1)])])))]
def b__law_cells : List IS := [.ret (some (.lrg (.blt .max2 [(.cst (.int 1)), (.blt .min2 [(.var 1), (.blt .len [(.var 0)])])])))]
def b__law_odd : List IS := [.asg (.nm 1) (.ls [(.cst .non), (.cst (.bl true)), (.cst (.bl false)), (.cst (.int 0)), (.cst (.int 1)), (.neg (.cst (.int 1))), (.cst (.int 2)), (.cst (.str "")), (.cst (.str "a")), (.cst (.str "p")), (.cst (.str "walks")), (.tp []), (.ls []), (.dsp [] []), (.tp [(.cst (.int 0))]), (.tp [(.tp [])]), (.ls [(.cst (.int 0))]), (.tp [(.cst (.str "a")), (.cst (.str "b"))])]), .ret (some (.cal 2 [(.var 0), (.bin .Add (.var 1) (.ls [(.tp [(.tp [(.cst (.str "a"))])]), (.tp [(.cst (.str "p")), (.cst (.str "q"))]), (.tp [(.cst .non)]), (.bin .Pow (.cst (.int 10)) (.cst (.int 8))), (.cst (.str "A")), (.tp [(.cst (.bl true))]), (.dsp ["a"] [(.cst (.int 1))]), (.tp [(.cst (.str "never"))])]))]))]
def b__law_errors : List IS := [.asg (.nm 1) (.ls [(.tp [(.cst (.str "BadBehind")), (.mkE "BadBehind" (.var 0))]), (.tp [(.cst (.str "BadBounds")), (.mkE "BadBounds" (.var 0))]), (.tp [(.cst (.str "BadFacts")), (.mkE "BadFacts" (.var 0))])]), .ex (.mth .extend (.var 1) [(.ls [(.tp [(.cst (.str "BadJournal")), (.mkE "BadJournal" (.var 0))]), (.tp [(.cst (.str "BadKitchen")), (.mkE "BadKitchen" (.var 0))]), (.tp [(.cst (.str "BadLine")), (.mkE "BadLine" (.var 0))])])]), .ex (.mth .extend (.var 1) [(.ls [(.tp [(.cst (.str "BadOffers")), (.mkE "BadOffers" (.var 0))]), (.tp [(.cst (.str "BadPart")), (.mkE "BadPart" (.var 0))]), (.tp [(.cst (.str "BadSay")), (.mkE "BadSay" (.var 0))])])]), .ex (.mth .extend (.var 1) [(.ls [(.tp [(.cst (.str "BadText")), (.mkE "BadText" (.var 0))]), (.tp [(.cst (.str "BadWishes")), (.mkE "BadWishes" (.var 0))]), (.tp [(.cst (.str "BadWorld")), (.mkE "BadWorld" (.var 0))])])]), .ex (.mth .extend (.var 1) [(.ls [(.tp [(.cst (.str "Empty")), (.mkE "Empty" (.var 0))]), (.tp [(.cst (.str "Full")), (.mkE "Full" (.var 0))]), (.tp [(.cst (.str "NothingToRedo")), (.mkE "NothingToRedo" (.var 0))])])]), .ex (.mth .extend (.var 1) [(.ls [(.tp [(.cst (.str "NothingToUndo")), (.mkE "NothingToUndo" (.var 0))]), (.tp [(.cst (.str "NoStep")), (.mkE "NoStep" (.var 0))]), (.tp [(.cst (.str "NotFree")), (.mkE "NotFree" (.var 0))])])]), .ex (.mth .extend (.var 1) [(.ls [(.tp [(.cst (.str "NoTrial")), (.mkE "NoTrial" (.var 0))]), (.tp [(.cst (.str "NoVessel")), (.mkE "NoVessel" (.var 0))]), (.tp [(.cst (.str "NoWater")), (.mkE "NoWater" (.var 0))])])]), .ret (some (.bin .Add (.var 1) (.ls [(.tp [(.cst (.str "TooMany")), (.mkE "TooMany" (.var 0))]), (.tp [(.cst (.str "Unlike")), (.mkE "Unlike" (.var 0))])])))]
def b__law_some_kinds : List IS := [.asg (.nm 1) (.ls [(.tp [(.cst (.str "BadBehind")), (.isi (.var 0) (.own "BadBehind"))]), (.tp [(.cst (.str "BadBounds")), (.isi (.var 0) (.own "BadBounds"))])]), .ex (.mth .extend (.var 1) [(.ls [(.tp [(.cst (.str "BadFacts")), (.isi (.var 0) (.own "BadFacts"))]), (.tp [(.cst (.str "BadJournal")), (.isi (.var 0) (.own "BadJournal"))])])]), .ex (.mth .extend (.var 1) [(.ls [(.tp [(.cst (.str "BadKitchen")), (.isi (.var 0) (.own "BadKitchen"))]), (.tp [(.cst (.str "BadLine")), (.isi (.var 0) (.own "BadLine"))])])]), .ex (.mth .extend (.var 1) [(.ls [(.tp [(.cst (.str "BadOffers")), (.isi (.var 0) (.own "BadOffers"))]), (.tp [(.cst (.str "BadPart")), (.isi (.var 0) (.own "BadPart"))])])]), .ex (.mth .extend (.var 1) [(.ls [(.tp [(.cst (.str "BadSay")), (.isi (.var 0) (.own "BadSay"))]), (.tp [(.cst (.str "BadText")), (.isi (.var 0) (.own "BadText"))])])]), .ex (.mth .extend (.var 1) [(.ls [(.tp [(.cst (.str "BadWishes")), (.isi (.var 0) (.own "BadWishes"))]), (.tp [(.cst (.str "BadWorld")), (.isi (.var 0) (.own "BadWorld"))])])]), .ret (some (.lc (.tp [(.nm 2), (.nm 3)]) 0 [(.var 1)] [(.var 3)] (.var 2) [2, 3]))]
def b__law_kinds : List IS := [.asg (.nm 1) (.ls [(.tp [(.cst (.str "Empty")), (.isi (.var 0) (.own "Empty"))]), (.tp [(.cst (.str "Full")), (.isi (.var 0) (.own "Full"))])]), .ex (.mth .extend (.var 1) [(.ls [(.tp [(.cst (.str "NothingToRedo")), (.isi (.var 0) (.own "NothingToRedo"))]), (.tp [(.cst (.str "NoStep")), (.isi (.var 0) (.own "NoStep"))])])]), .ex (.mth .extend (.var 1) [(.ls [(.tp [(.cst (.str "NothingToUndo")), (.isi (.var 0) (.own "NothingToUndo"))]), (.tp [(.cst (.str "NotFree")), (.isi (.var 0) (.own "NotFree"))])])]), .ex (.mth .extend (.var 1) [(.ls [(.tp [(.cst (.str "NoTrial")), (.isi (.var 0) (.own "NoTrial"))]), (.tp [(.cst (.str "NoVessel")), (.isi (.var 0) (.own "NoVessel"))])])]), .ex (.mth .extend (.var 1) [(.ls [(.tp [(.cst (.str "NoWater")), (.isi (.var 0) (.own "NoWater"))]), (.tp [(.cst (.str "TooMany")), (.isi (.var 0) (.own "TooMany"))])])]), .ex (.mth .append (.var 1) [(.tp [(.cst (.str "Unlike")), (.isi (.var 0) (.own "Unlike"))])]), .ret (some (.bin .Add (.cal 6 [(.var 0)]) (.lc (.tp [(.nm 2), (.nm 3)]) 0 [(.var 1)] [(.var 3)] (.var 2) [2, 3])))]
def b__law_right : List IS := [.for_ (.nm 1) 0 [(.bin .Add (.lc (.nm 5) 1 [(.cst (.int 3))] [] (.cal 4 [(.var 0)]) [5]) (.ls [(.tp [(.cal 4 [(.var 0)]), (.ls [(.cal 4 [(.var 0)])])])]))] [.asg (.nm 2) (.mkE "PouredError" (.var 1)), .iff (.orr [(.cmp .NotEq (.rpr (.fld (.var 2))) (.rpr (.var 1))), (.nt (.isi (.var 2) (.ty "ValueError"))), (.cmp .NotEq (.cal 7 [(.var 2)]) (.ls []))]) [.ret (some (.cst (.bl false)))] [], .for_ (.tp [(.nm 3), (.nm 4)]) 0 [(.cal 5 [(.var 1)])] [.iff (.orr [(.cmp .NotEq (.rpr (.fld (.var 4))) (.rpr (.var 1))), (.cmp .NotEq (.cal 7 [(.var 4)]) (.ls [(.var 3)]))]) [.ret (some (.cst (.bl false)))] [], .iff (.orr [(.nt (.isi (.var 4) (.own "PouredError"))), (.nt (.isi (.var 4) (.ty "ValueError")))]) [.ret (some (.cst (.bl false)))] []]], .ret (some (.cst (.bl true)))]
def b_law : List IS := [.ret (some (.blt .all [(.lc (.nm 1) 0 [(.cal 3 [(.var 0), (.cst (.int 6))])] [] (.cal 8 [(.cal 0 [(.var 0), (.var 1)])]) [1])]))]
def g : Glo := ([("_law_pot", .fn 0), ("_law_take", .fn 1), ("_law_of", .fn 2), ("_law_cells", .fn 3), ("_law_odd", .fn 4), ("_law_errors", .fn 5), ("_law_some_kinds", .fn 6), ("_law_kinds", .fn 7), ("_law_right", .fn 8), ("law", .fn 9)] : Glo) ++ (errs.map (fun x => (x, GV.err)) ++ blts.map (fun x => (x, GV.blt)))
theorem t__law_pot : trS g n__law_pot 60 (defScope s__law_pot) (defBody s__law_pot) = some b__law_pot := by kernel_rfl
theorem t__law_take : trS g n__law_take 60 (defScope s__law_take) (defBody s__law_take) = some b__law_take := by kernel_rfl
theorem t__law_of : trS g n__law_of 60 (defScope s__law_of) (defBody s__law_of) = some b__law_of := by kernel_rfl
theorem t__law_cells : trS g n__law_cells 60 (defScope s__law_cells) (defBody s__law_cells) = some b__law_cells := by kernel_rfl
theorem t__law_odd : trS g n__law_odd 60 (defScope s__law_odd) (defBody s__law_odd) = some b__law_odd := by kernel_rfl
theorem t__law_errors : trS g n__law_errors 60 (defScope s__law_errors) (defBody s__law_errors) = some b__law_errors := by kernel_rfl
theorem t__law_some_kinds : trS g n__law_some_kinds 60 (defScope s__law_some_kinds) (defBody s__law_some_kinds) = some b__law_some_kinds := by kernel_rfl
theorem t__law_kinds : trS g n__law_kinds 60 (defScope s__law_kinds) (defBody s__law_kinds) = some b__law_kinds := by kernel_rfl
theorem t__law_right : trS g n__law_right 60 (defScope s__law_right) (defBody s__law_right) = some b__law_right := by kernel_rfl
theorem t_law : trS g n_law 60 (defScope s_law) (defBody s_law) = some b_law := by kernel_rfl
def G : Prg := ⟨[⟨2, 5, b__law_pot⟩, ⟨2, 5, b__law_take⟩, ⟨2, 2, b__law_of⟩, ⟨2, 2, b__law_cells⟩, ⟨1, 2, b__law_odd⟩, ⟨1, 2, b__law_errors⟩, ⟨1, 4, b__law_some_kinds⟩, ⟨1, 4, b__law_kinds⟩, ⟨1, 6, b__law_right⟩, ⟨1, 2, b_law⟩], tI, errs⟩
def x0 : Str := "PouredError"
def sI : Stmt := match top 1 with
  | .ClassDef _ _ _ (s :: _) _ _ _ _ _ _ _ => s
  | _ => .Pass ⟨0, 0, 0, 0⟩
def iI : FnI := some ("__init__", "PouredError.__init__", defArgs sI, .stmts (defBody sI), defScope sI)
abbrev hk : PySem.W.Hook := hookM R.prog names fa fn x0 errs tI iI
def ob (s : PySem.W.SharedT) : AlM := obsM R.prog names fa fn x0 errs tI (HandSHeadRun.getT s)
theorem ob_eq (s : PySem.W.SharedT) : ob s = hk.obs s.abs := obsM_eq (HandSHeadRun.getT_eq s)
def loose0 : List Str := ["__name__", "PouredError", "BadPart", "BadText", "BadKitchen", "NoWater", "NoStep", "BadBehind", "BadLine", "Full", "BadWorld", "NoVessel", "Empty", "NotFree", "TooMany", "BadFacts", "BadBounds", "BadOffers", "BadWishes", "Unlike", "NothingToUndo", "NothingToRedo", "NoTrial", "BadJournal", "BadSay", "_law_pot", "_law_take", "_law_of", "_law_cells", "_law_odd"]
def loose1 : List Str := ["_law_errors", "_law_some_kinds", "_law_kinds", "_law_right"]
def loose : List Str := loose0 ++ loose1
theorem run (w : World) : HandSHeadRun.RunEq R (PySem.W.view R.prog [35]) hk ob 6000 loose w := by
  intro os
  kernel_rfl
end Lw

set_option Elab.async false
set_option linter.all false
set_option maxRecDepth 100000
set_option maxHeartbeats 1000000
namespace Lw
open PySem L2 Mi
/-! ### the classes that an error is of -/
def kinds1 (c : Str) : List Val := if c = ("PouredError" : Str) then [] else [.str c]
def kchk (c : Str) : Bool := match (Mi.run G 40).c 3 7 [.err c .opq] [] with
  | .ok (.loc m) h1 => (match h1[m]? with
    | some (.lst []) => decide (c = ("PouredError" : Str))
    | some (.lst [.str x]) => decide (x = c) && decide (c ≠ ("PouredError" : Str))
    | _ => false)
  | _ => false
theorem kchk_all : errs.all kchk = true := by decide +kernel
theorem x_kinds {d : Nat} {h : LH} {c : Str} {v : Val} {E : EP} (hc : c ∈ errs) (hd : 3 ≤ d) {Q : Val → LH → Prop} (k : ∀ q h', h'[q]? = some (.lst (kinds1 c)) → Xt h h' → Q (.loc q) h') : XC G d 7 [.err c v] h Q E := by
  have z := List.all_eq_true.mp kchk_all c hc
  unfold kchk at z
  split at z
  · rename_i m h1 e
    obtain ⟨v', h1', e1, r1, r2⟩ := call_over (h0 := h) (vs' := [.err c v]) (h' := []) e (.cons (.err (.opq v)) .nil) .nil
    rw [List.append_nil] at e1
    refine xc_of e1 hd ?_
    cases r1 with
    | loc _ =>
      refine k _ _ ?_ (Xt.app _ _)
      rw [List.getElem?_append_right (by omega), show m + h.length - h.length = m by omega]
      split at z
      · rename_i em
        obtain ⟨o', e3, e4⟩ := rh_get r2 em
        rw [e3]
        cases e4 with
        | lst r =>
          cases r
          unfold kinds1
          rw [if_pos (of_decide_eq_true z)]
      · rename_i x em
        obtain ⟨o', e3, e4⟩ := rh_get r2 em
        rw [e3]
        simp only [Bool.and_eq_true, decide_eq_true_eq] at z
        cases e4 with
        | lst r =>
          cases r with
          | cons r1 r2 =>
            cases r1
            cases r2
            unfold kinds1
            rw [if_neg z.2, z.1]
      · cases z
  · cases z
/-! ### one error of each class -/
def nmL : List Str := ["BadBehind", "BadBounds", "BadFacts", "BadJournal", "BadKitchen", "BadLine", "BadOffers", "BadPart", "BadSay", "BadText", "BadWishes", "BadWorld", "Empty", "Full", "NothingToRedo", "NothingToUndo", "NoStep", "NotFree", "NoTrial", "NoVessel", "NoWater", "TooMany", "Unlike"]
def errL (v : Val) : List Val := nmL.map fun c => .tup [.str c, .err c v]
theorem x_errors {d : Nat} {h : LH} {v : Val} {E : EP} {Q : Val → LH → Prop} (k : ∀ q h', h.length ≤ q → h'[q]? = some (.lst (errL v)) → Xt h h' → Q (.loc q) h') : XC G d 5 [v] h Q E := by
  refine xc (D := ⟨1, 2, b__law_errors⟩) rfl rfl ?_
  simp only [b__law_errors, wS, wS1, w, wL, tbl, List.map_cons, List.map_nil, List.cons_append, List.nil_append, List.getElem?_cons_zero, List.getElem?_cons_succ, bindT, List.length_cons, List.length_nil, Nat.reduceAdd, Nat.reduceSub, List.replicate, List.set_cons_zero, List.set_cons_succ]
  simp only [Hd, vMt, okTy, seqL, chk, noLoc, List.length_append, List.length_cons, List.length_nil, List.append_assoc, List.cons_append, List.nil_append, ap_at, ap_at0, ap_set, ap_set0, Nat.reduceAdd, List.getElem?_cons_zero, List.getElem?_cons_succ, List.set_cons_zero, List.set_cons_succ, Option.isSome_some, vBin, vAdd, newL, Nat.zero_add, Nat.add_assoc, true_and, and_true, sizeLine, Nat.reducePow, Nat.reduceLeDiff, decide_true]
  exact k _ _ (by omega) (by rw [ap_at]; rfl) (Xt.app _ _)
/-! ### a value of any kind -/
def menuV (k : Nat) : List Val := [.non, .bl true, .bl false, .int 0, .int 1, .int (-1), .int 2, .str "", .str "a", .str "p", .str "walks", .tup [], .loc k, .loc (k + 1), .tup [.int 0], .tup [.tup []], .loc (k + 2), .tup [.str "a", .str "b"],
  .tup [.tup [.str "a"]], .tup [.str "p", .str "q"], .tup [.non], .int 100000000, .str "A", .tup [.bl true], .loc (k + 4), .tup [.str "never"]]
def menuD : List PyData := [.none, .bool true, .bool false, .int 0, .int 1, .int (-1), .int 2, .str "", .str "a", .str "p", .str "walks", .tuple [], .list [], .dict [], .tuple [.int 0], .tuple [.tuple []], .list [.int 0], .tuple [.str "a", .str "b"],
  .tuple [.tuple [.str "a"]], .tuple [.str "p", .str "q"], .tuple [.none], .int 100000000, .str "A", .tuple [.bool true], .dict [(.str "a", .int 1)], .tuple [.str "never"]]
theorem menu_show {k : Nat} {h : LH} {v : Val} (h0 : h[k]? = some (.lst [])) (h1 : h[k + 1]? = some (.dK [])) (h2 : h[k + 2]? = some (.lst [.int 0])) (h4 : h[k + 4]? = some (.dK [(.inr "a", .int 1)])) (hv : v ∈ menuV k) : ∃ e ∈ menuD, ∀ n, toR (n + 4) h v = some e := by
  simp only [menuV, List.mem_cons, List.not_mem_nil, or_false] at hv
  rcases hv with rfl | rfl | rfl | rfl | rfl | rfl | rfl | rfl | rfl | rfl | rfl | rfl | rfl | rfl | rfl | rfl | rfl | rfl | rfl | rfl | rfl | rfl | rfl | rfl | rfl | rfl
  all_goals (first
    | exact ⟨.none, by simp [menuD], fun n => rfl⟩
    | exact ⟨.bool true, by simp [menuD], fun n => rfl⟩
    | exact ⟨.bool false, by simp [menuD], fun n => rfl⟩
    | exact ⟨.int _, by simp [menuD], fun n => rfl⟩
    | exact ⟨.str _, by simp [menuD], fun n => rfl⟩
    | exact ⟨.tuple _, by simp [menuD], fun n => rfl⟩
    | exact ⟨.list [], by simp [menuD], fun n => by rw [toR_lst h0]; rfl⟩
    | exact ⟨.dict [], by simp [menuD], fun n => by rw [toR_dK h1]; rfl⟩
    | exact ⟨.list [.int 0], by simp [menuD], fun n => by rw [toR_lst h2]; rfl⟩
    | exact ⟨.dict [(.str "a", .int 1)], by simp [menuD], fun n => by rw [toR_dK h4]; rfl⟩
)
def Sd (k : Nat) (h : LH) (v : Val) : Prop := ∀ h', Ky k h h' → ∃ e ∈ menuD, ∀ n, toR (n + 4) h' v = some e
theorem Sd.ky {k : Nat} {h h' : LH} {v : Val} (s : Sd k h v) (a : Ky k h h') : Sd k h' v := fun h2 k2 => s h2 (a.trans k2)
theorem Sd.dn {k l : Nat} {h : LH} {v : Val} (s : Sd k h v) (hk : l ≤ k) : Sd l h v := fun h2 k2 => s h2 (k2.up hk)
theorem tk : TkOk G 1 100403 35 10037 87 := ⟨rfl, by omega, by omega, by omega, by omega⟩
theorem x_odd {d p n : Nat} {h : LH} {E : EP} (hd : 2 ≤ d) (hp : Pot h p n) (hn : n < 2 ^ 59) {Q : Val → LH → Prop} (k : ∀ v h', Sd h.length h' v → Pot h' p (n + 1) → Kp p h h' → Q v h') : XC G d 4 [.loc p] h Q E := by
  refine xc (D := ⟨1, 2, b__law_odd⟩) rfl rfl ?_
  have hlt := hp.lt
  simp only [b__law_odd, wS, wS1, w, wL, tbl, List.map_cons, List.map_nil, List.cons_append, List.nil_append, List.getElem?_cons_zero, List.getElem?_cons_succ, bindT, List.length_cons, List.length_nil, Nat.reduceAdd, Nat.reduceSub, List.replicate, List.set_cons_zero, List.set_cons_succ]
  have hpw : ∀ h : LH, vPow (.int 10) (.int 8) h = .ok (.int 100000000) h := fun h => rfl
  simp only [Hd, vNeg, hpw, vMt, okTy, seqL, chk, noLoc, noLocs, List.length_append, List.length_cons, List.length_nil, List.append_assoc, List.cons_append, List.nil_append, ap_at, ap_at0, ap_set, ap_set0, Nat.reduceAdd, List.getElem?_cons_zero, List.getElem?_cons_succ, List.set_cons_zero, List.set_cons_succ, Option.isSome_some, vBin, vAdd, newL, Nat.zero_add, Nat.add_assoc, true_and, and_true, sizeLine, Nat.reducePow, Nat.reduceLeDiff, decide_true, putAll, put, Bool.and_true, List.any_nil, Bool.false_eq_true, if_false]
  generalize hH : h ++ [Ob.lst [], Ob.dK [], _, _, _, _, _] = H
  have f0 : H[h.length]? = some (.lst []) := by rw [← hH]; exact ap_at0 _ _
  have f1 : H[h.length + 1]? = some (.dK []) := by rw [← hH]; exact ap_at _ _ 1
  have f2 : H[h.length + 2]? = some (.lst [.int 0]) := by rw [← hH]; exact ap_at _ _ 2
  have f4 : H[h.length + 4]? = some (.dK [(.inr "a", .int 1)]) := by rw [← hH]; exact ap_at _ _ 4
  have f6 : H[h.length + 6]? = some (.lst (menuV h.length)) := by rw [← hH]; exact ap_at _ _ 6
  have hk : Kp p h H := by rw [← hH]; exact Kp.app p _ _
  have hP : Pot H p n := by rw [← hH]; exact hp.app
  refine ⟨by omega, x_of tk (ko := 2) rfl (by omega) hP (by omega) f6 (by omega) (by simp [menuV]) (by simp [menuV]) fun v h' hv hp' hk' => ?_⟩
  refine k v h' (fun h2 k2 => ?_) hp' (hk.trans hk')
  have kk := (hk'.ky (k := h.length) hlt).trans k2
  exact menu_show (kk.2 _ _ (by omega) f0) (kk.2 _ _ (by omega) f1) (kk.2 _ _ (by omega) f2) (kk.2 _ _ (by omega) f4) hv
end Lw

set_option Elab.async false
set_option linter.all false
set_option maxRecDepth 100000
set_option maxHeartbeats 1000000
namespace Lw
open PySem L2 Mi
/-! ### shown values -/
def okD (d : PyData) : Bool := PyData.showable d && decide (d.shown.length ≤ sizeLine) && decide (d.depth ≤ 100)
theorem ok1 : menuD.all okD = true := by decide +kernel
theorem ok2 : (menuD.all fun a => menuD.all fun b => okD (.tuple [a, .list [b]])) = true := by decide +kernel
/-- it can be shown, now and later -/
def Sh (k : Nat) (h : LH) (v : Val) : Prop := ∀ h', Ky k h h' → ∃ s, vRep v h' = .ok (.str s) h'
theorem Sh.ky {k : Nat} {h h' : LH} {v : Val} (s : Sh k h v) (a : Ky k h h') : Sh k h' v := fun h2 k2 => s h2 (a.trans k2)
theorem Sh.dn {k l : Nat} {h : LH} {v : Val} (s : Sh k h v) (hk : l ≤ k) : Sh l h v := fun h2 k2 => s h2 (k2.up hk)
theorem rep_of {v : Val} {h : LH} {d : PyData} (e : toR 40 h v = some d) (o : okD d = true) : vRep v h = .ok (.str d.shown) h := by
  unfold vRep
  rw [e]
  dsimp only
  unfold okD at o
  rw [o]
  rfl
theorem Sd.sh {p : Nat} {h : LH} {v : Val} (s : Sd p h v) : Sh p h v := fun h' k => by
  obtain ⟨e, he, q⟩ := s h' k
  exact ⟨_, rep_of (q 36) (List.all_eq_true.mp ok1 e he)⟩
theorem sh2 {p q : Nat} {h : LH} {v y : Val} (s : Sd p h v) (t : Sd p h y) (hq : h[q]? = some (.lst [y])) (hne : p ≤ q) : Sh p h (.tup [v, .loc q]) := fun h' k => by
  obtain ⟨a, ha, e1⟩ := s h' k
  obtain ⟨b, hb, e2⟩ := t h' k
  have e3 : toR 39 h' (.loc q) = some (.list [b]) := by
    rw [toR_lst (k.2 q _ hne hq)]
    show (match toR 38 h' y, mapO (toR 38 h') [] with
      | some d, some ds => some (d :: ds)
      | _, _ => none).map PyData.list = _
    rw [e2 34]
    rfl
  have e4 : toR 40 h' (.tup [v, .loc q]) = some (.tuple [a, .list [b]]) := by
    show (match toR 39 h' v, (match toR 39 h' (.loc q), mapO (toR 39 h') [] with
      | some d, some ds => some (d :: ds)
      | _, _ => none) with
      | some d, some ds => some (d :: ds)
      | _, _ => none).map PyData.tuple = _
    rw [e1 35, e3]
    rfl
  exact ⟨_, rep_of e4 (List.all_eq_true.mp (List.all_eq_true.mp ok2 a ha) b hb)⟩
/-! ### kinds beside what is due -/
theorem eq_kinds : (errs.all fun c => SeqAt.shaped (.list ((kinds1 c).map fun v => match v with | .str x => PyData.str x | _ => .none)) && PyData.eqv (.list ((kinds1 c).map fun v => match v with | .str x => PyData.str x | _ => .none)) (.list ((kinds1 c).map fun v => match v with | .str x => PyData.str x | _ => .none))) = true := by decide +kernel
theorem ne_kinds {h : LH} {q r : Nat} {c : Str} (hc : c ∈ errs) (h1 : h[q]? = some (.lst (kinds1 c))) (h2 : h[r]? = some (.lst (kinds1 c))) : vCmp .NotEq (.loc q) (.loc r) h = .ok (.bl false) h := by
  show ofB ((eqB (.loc q) (.loc r) h).map (!·)) h = _
  unfold eqB
  have e : scl (.loc q) (.loc r) = none := rfl
  rw [e]
  dsimp only
  have z := List.all_eq_true.mp eq_kinds c hc
  have md : mapO (toD 39 h) (kinds1 c) = some ((kinds1 c).map fun v => match v with | .str x => PyData.str x | _ => .none) := by
    unfold kinds1
    split <;> rfl
  rw [toD_lst h1, toD_lst h2, md]
  generalize (kinds1 c).map (fun v => match v with | .str x => PyData.str x | _ => .none) = L at z ⊢
  simp only [Bool.and_eq_true] at z
  show ofB ((if (SeqAt.shaped (.list L) && SeqAt.shaped (.list L)) = true then some (PyData.eqv (.list L) (.list L)) else none).map (!·)) h = _
  rw [z.1, z.2]
  rfl
theorem isi_all : (errs.all fun c => decide (isiL tI (.own c) (.ty "ValueError") = some true) && decide (isiL tI (.own c) (.own "PouredError") = some true)) = true := by decide +kernel
theorem isi_ve {c : Str} {v : Val} {h : LH} (hc : c ∈ errs) : vIsi tI errs (.ty "ValueError") (.err c v) h = .ok (.bl true) h := by
  have z := List.all_eq_true.mp isi_all c hc
  simp only [Bool.and_eq_true, decide_eq_true_eq] at z
  have e : errs.contains c = true := by simpa using hc
  show (match isiL tI (.own c) (.ty "ValueError"), errs.contains c with
    | some b, true => Res.ok (Val.bl b) h
    | _, _ => .bad) = _
  rw [z.1, e]
theorem isi_pe {c : Str} {v : Val} {h : LH} (hc : c ∈ errs) : vIsi tI errs (.own "PouredError") (.err c v) h = .ok (.bl true) h := by
  have z := List.all_eq_true.mp isi_all c hc
  simp only [Bool.and_eq_true, decide_eq_true_eq] at z
  have e : errs.contains c = true := by simpa using hc
  show (match isiL tI (.own c) (.own "PouredError"), errs.contains c with
    | some b, true => Res.ok (Val.bl b) h
    | _, _ => .bad) = _
  rw [z.2, e]
theorem fld_ok {c : Str} {v : Val} {h : LH} (hc : c ∈ errs) : vFld errs (.err c v) h = .ok v h := by
  have e : errs.contains c = true := by simpa using hc
  show chk (errs.contains c) (.ok v h) = _
  rw [e]
  rfl
theorem nm_all : (nmL.all fun c => errs.contains c && decide (c ≠ ("PouredError" : Str))) = true := by decide +kernel
/-! ### one value -/
abbrev KR (p : Nat) (h : LH) : KS := fun x => match x with
  | .rt v h1 => v = .bl true ∧ Kp p h h1
  | .nx _ h1 => Val.non = .bl true ∧ Kp p h h1
  | .exc c v _ h1 => False
  | _ => False
theorem x_right {d p : Nat} {h : LH} (hd : 4 ≤ d) (hp : Pot h p 0) : XC G d 8 [.loc p] h (fun v h' => v = .bl true ∧ Kp p h h') noX := by
  refine xc (D := ⟨1, 6, b__law_right⟩) rfl rfl ?_
  have hlt := hp.lt
  simp only [b__law_right, wS, wS1, w, wL, tbl, ttr, Mi.tOr, List.map_cons, List.map_nil, List.cons_append, List.nil_append, List.getElem?_cons_zero, List.getElem?_cons_succ, bindT, List.length_cons, List.length_nil, Nat.reduceAdd, Nat.reduceSub, List.replicate, List.set_cons_zero, List.set_cons_succ]
  refine ⟨rfl, .rng 0 3, rfl, ?_⟩
  generalize hD : h.length = D at hlt
  refine xl_inv 3 (fun i h1 => ∃ vs, vs.length = i ∧ h1[D]? = some (.lst vs) ∧ Pot h1 p i ∧ Kp p h h1 ∧ D < h1.length ∧ ∀ v ∈ vs, Sh (D + 1) h1 v) ⟨[], rfl, by rw [← hD]; exact at_end, hp.app, Kp.app _ _ _, by simp [hD], fun v hv => nomatch hv⟩ (fun i h1 hi k => ?_) fun h1 k => ?_
  · obtain ⟨vs, hl, hv, hP, hK, hlD, hS⟩ := k
    refine ⟨.int i, _, ?_, rfl, ?_⟩
    · show (if i < 3 then some (some (Val.int (0 + i))) else some none) = _
      rw [if_pos hi]
      simp
    · simp only [w, wL, wipeL, List.getElem?_cons_zero, List.getElem?_cons_succ, List.set_cons_zero, List.set_cons_succ]
      refine ⟨by omega, x_odd (by omega) hP (by omega) fun v h2 hs hP2 hK2 => ?_⟩
      have e2 := hK2.2 D _ (by omega) hv
      have hl2 := hK2.1
      refine ⟨vs, e2, by rw [hl]; exact Nat.lt_of_lt_of_le hi (by decide), vs ++ [v], by simp [hl], ?_, ?_, ?_, ?_, fun y hy => ?_⟩
      · exact List.getElem?_set_self (List.getElem?_eq_some_iff.mp e2).1
      · obtain ⟨a, b, c, e, r⟩ := hP2
        exact ⟨a, b, c, by rw [List.getElem?_set_ne (by omega)]; exact e, r⟩
      · exact (hK.trans hK2).setNew (by omega)
      · simp
        omega
      · rcases List.mem_append.mp hy with hy | hy
        · exact (hS y hy).ky ((hK2.ky (by omega)).trans (Ky.set (by omega)))
        · have : y = v := by simpa using hy
          rw [this]
          exact (hs.sh.dn (by omega)).ky (Ky.set (by omega))
  · obtain ⟨vs, hl, hv, hP, hK, hlD, hS⟩ := k
    refine ⟨rfl, ?_⟩
    refine ⟨by omega, x_odd (by omega) hP (by omega) fun v4 h2 s4 hP2 hK2 => ⟨by omega, x_odd (by omega) hP2 (by omega) fun v5 h3 s5 hP3 hK3 => ⟨by decide, by decide, by decide, ?_⟩⟩⟩
    have l2 := hK2.1
    have l3 := hK3.1
    obtain ⟨H, eH⟩ : ∃ H, H = h3 ++ [Ob.lst [v5]] ++ [Ob.lst [.tup [v4, .loc h3.length]]] := ⟨_, rfl⟩
    rw [← eH]
    have k3 : Kp p h3 H := by rw [eH, List.append_assoc]; exact Kp.app _ _ _
    have eD : H[D]? = some (.lst vs) := k3.2 D _ (by omega) (hK3.2 D _ (by omega) (hK2.2 D _ (by omega) hv))
    have e5 : H[h3.length]? = some (.lst [v5]) := by rw [eH]; exact at_app at_end
    have eL : H[(h3 ++ [Ob.lst [v5]]).length]? = some (.lst [.tup [v4, .loc h3.length]]) := by rw [eH]; exact at_end
    generalize (h3 ++ [Ob.lst [v5]]).length = m at eL ⊢
    have lH := k3.1
    refine hd_by (v := .loc H.length) (h := H ++ [.lst (vs ++ [.tup [v4, .loc h3.length]])]) ?_ ⟨.seq (.loc H.length), mk_lst at_end, ?_⟩
    · show vAdd (.loc D) (.loc m) H = _
      unfold vAdd
      dsimp only
      rw [eD, eL]
      show chk (decide (vs.length + 1 ≤ sizeLine)) _ = _
      rw [decide_eq_true (by rw [hl]; decide)]
      rfl
    have kH : Ky (D + 1) h1 H := ((hK2.ky (by omega)).trans (hK3.ky (by omega))).trans (k3.ky (by omega))
    have sH : ∀ y ∈ vs ++ [.tup [v4, .loc h3.length]], Sh (D + 1) (H ++ [.lst (vs ++ [.tup [v4, .loc h3.length]])]) y := fun y hy => by
      have ka : Ky (D + 1) H (H ++ [.lst (vs ++ [.tup [v4, .loc h3.length]])]) := (Kp.app p _ _).ky (by omega)
      rcases List.mem_append.mp hy with hy | hy
      · exact (hS y hy).ky (kH.trans ka)
      · have : y = .tup [v4, .loc h3.length] := by simpa using hy
        rw [this]
        refine Sh.ky (sh2 ((s4.dn (by omega)).ky ((hK3.ky (by omega)).trans (k3.ky (by omega)))) ((s5.dn (by omega)).ky (k3.ky (by omega))) e5 (by omega)) ka
    have hl4 : (vs ++ [Val.tup [v4, .loc h3.length]]).length = 4 := by simp [hl]
    have kh : Kp p h (H ++ [.lst (vs ++ [.tup [v4, .loc h3.length]])]) := ((hK.trans hK2).trans (hK3.trans k3)).trans (Kp.app _ _ _)
    generalize vs ++ [Val.tup [v4, .loc h3.length]] = ws at sH hl4 kh ⊢
    generalize hM : H.length = M at *
    have eM : (H ++ [Ob.lst ws])[M]? = some (.lst ws) := by rw [← hM]; exact at_end
    have pM : p < M := by omega
    have DM : D < M := by omega
    generalize H ++ [Ob.lst ws] = H1 at sH kh eM ⊢
    refine xf_inv 4 (fun i sl h2 => (∃ a b c e f, sl = [some (.loc p), a, b, c, e, f]) ∧ Kp p H1 h2) ⟨⟨_, _, _, _, _, rfl⟩, Kp.refl _ _⟩ (fun i sl h2 hi k => ?_) fun sl h2 k => ?_
    · obtain ⟨⟨a, b, c, e, f, rfl⟩, kk⟩ := k
      have hi' : i < ws.length := by omega
      have sv : Sh (D + 1) h2 ws[i] := (sH _ (List.getElem_mem hi')).ky (kk.ky (by omega))
      refine ⟨ws[i], [some (.loc p), some ws[i], b, c, e, f], ?_, rfl, ?_⟩
      · rw [item_lst (kk.2 M _ (by omega) eM), List.getElem?_eq_getElem hi']
      generalize ws[i] = v at sv ⊢
      have hPE : ("PouredError" : Str) ∈ errs := by decide
      simp only [wS, wS1, w, wL, tbl, ttr, Mi.tOr, List.getElem?_cons_zero, List.getElem?_cons_succ, bindT, List.set_cons_zero, List.set_cons_succ]
      obtain ⟨s, es⟩ := sv h2 (Ky.refl _ _)
      refine hd_by (fld_ok hPE) (hd_by es (hd_by es (hd_by ne_str (hd_by (isi_ve hPE) ⟨by omega, x_kinds hPE (by omega) fun q h3 e3 x3 => ⟨by decide, hd_by (ne_kinds hPE (at_app e3) at_end) ⟨by omega, x_errors fun q4 h4 l4 e4 x4 => ⟨_, mk_lst e4, ?_⟩⟩⟩⟩))))
      have k4 : Kp p h2 h4 := x3.kp.trans ((Kp.app _ _ _).trans x4.kp)
      have p4 : q4 ≠ p := fun z => by
        have z1 := (List.getElem?_eq_some_iff.mp eM).1
        have z2 := kk.1
        have z3 := x3.1
        simp at l4
        omega
      refine xf_inv 23 (fun j sl h5 => (∃ c e f, sl = [some (.loc p), some v, some (.err "PouredError" v), c, e, f]) ∧ Kp p h4 h5) ⟨⟨_, _, _, rfl⟩, Kp.refl _ _⟩ (fun j sl h5 hj k => ?_) fun sl h5 k => ?_
      · obtain ⟨⟨c, e, f, rfl⟩, k5⟩ := k
        have hj' : j < nmL.length := hj
        have hn := List.all_eq_true.mp nm_all nmL[j] (List.getElem_mem hj')
        simp only [Bool.and_eq_true, decide_eq_true_eq] at hn
        have hce : nmL[j] ∈ errs := by simpa using hn.1
        refine ⟨.tup [.str nmL[j], .err nmL[j] v], [some (.loc p), some v, some (.err "PouredError" v), some (.str nmL[j]), some (.err nmL[j] v), f], ?_, rfl, ?_⟩
        · rw [item_lst (k5.2 q4 _ p4 e4)]
          unfold errL
          rw [List.getElem?_map, List.getElem?_eq_getElem hj']
          rfl
        generalize nmL[j] = nm at hn hce ⊢
        obtain ⟨s5, es5⟩ := sv h5 ((k4.trans k5).ky (by omega))
        simp only [wS, wS1, w, wL, tbl, ttr, Mi.tOr, List.getElem?_cons_zero, List.getElem?_cons_succ, bindT, List.set_cons_zero, List.set_cons_succ]
        refine hd_by (fld_ok hce) (hd_by es5 (hd_by es5 (hd_by ne_str ⟨by omega, x_kinds hce (by omega) fun q h6 e6 x6 => ⟨by show 1 ≤ sizeLine; decide, hd_by (ne_kinds hce (at_app e6) ?_) (hd_by (isi_pe hce) (hd_by (isi_ve hce) ⟨⟨_, _, _, rfl⟩, ?_⟩))⟩⟩)))
        · rw [at_end]
          unfold kinds1
          rw [if_neg hn.2]
        · exact k5.trans (x6.kp.trans (Kp.app _ _ _))
      · refine ⟨?_, ?_⟩
        · rw [item_lst (k.2.2 q4 _ p4 e4)]
          rfl
        · obtain ⟨⟨c, e, f, rfl⟩, k5⟩ := k
          exact ⟨⟨_, _, _, _, _, rfl⟩, kk.trans (k4.trans k5)⟩
    · refine ⟨?_, ?_⟩
      · rw [item_lst (k.2.2 M _ (by omega) eM), List.getElem?_eq_none (by omega)]
      · exact ⟨rfl, trivial, kh.trans k.2⟩
end Lw

set_option Elab.async false
set_option linter.all false
set_option maxRecDepth 100000
set_option maxHeartbeats 1000000
namespace Lw
open PySem L2 Mi
theorem pt : PtOk G 0 67 47 64117 8500 107 := ⟨rfl, by omega, by omega, by omega⟩
theorem pure_law (ns : List Int) (hl : ns.length ≤ 63) : XC G 20 9 [.cl (ns.map .int)] [] (fun v _ => v = .bl true) noX :=
  x_law pt (kc := 3) (kr := 8) (l := 6) rfl (by omega) rfl (by omega) (fun h p hp => x_right (by omega) hp) hl
end Lw

set_option Elab.async false
set_option linter.all false
set_option maxRecDepth 100000
set_option maxHeartbeats 0
namespace Lw
open PySem PySem.Spec PyProof.Rows L2 Mi
theorem sc__law_pot : FnScope n__law_pot p__law_pot (defScope s__law_pot) := ⟨rfl, rfl, rfl, by decide +kernel, rfl, by decide +kernel, by decide +kernel⟩
theorem sc__law_take : FnScope n__law_take p__law_take (defScope s__law_take) := ⟨rfl, rfl, rfl, by decide +kernel, rfl, by decide +kernel, by decide +kernel⟩
theorem sc__law_of : FnScope n__law_of p__law_of (defScope s__law_of) := ⟨rfl, rfl, rfl, by decide +kernel, rfl, by decide +kernel, by decide +kernel⟩
theorem sc__law_cells : FnScope n__law_cells p__law_cells (defScope s__law_cells) := ⟨rfl, rfl, rfl, by decide +kernel, rfl, by decide +kernel, by decide +kernel⟩
theorem sc__law_odd : FnScope n__law_odd p__law_odd (defScope s__law_odd) := ⟨rfl, rfl, rfl, by decide +kernel, rfl, by decide +kernel, by decide +kernel⟩
theorem sc__law_errors : FnScope n__law_errors p__law_errors (defScope s__law_errors) := ⟨rfl, rfl, rfl, by decide +kernel, rfl, by decide +kernel, by decide +kernel⟩
theorem sc__law_some_kinds : FnScope n__law_some_kinds p__law_some_kinds (defScope s__law_some_kinds) := ⟨rfl, rfl, rfl, by decide +kernel, rfl, by decide +kernel, by decide +kernel⟩
theorem sc__law_kinds : FnScope n__law_kinds p__law_kinds (defScope s__law_kinds) := ⟨rfl, rfl, rfl, by decide +kernel, rfl, by decide +kernel, by decide +kernel⟩
theorem sc__law_right : FnScope n__law_right p__law_right (defScope s__law_right) := ⟨rfl, rfl, rfl, by decide +kernel, rfl, by decide +kernel, by decide +kernel⟩
theorem sc_law : FnScope n_law p_law (defScope s_law) := ⟨rfl, rfl, rfl, by decide +kernel, rfl, by decide +kernel, by decide +kernel⟩
section
variable {K : PySem.W.Frag} {h : Heap} {mg : Str → Option Value}
theorem o__law_pot (X : K.In h) (N : h.Ns mainGlobals mg) (c : He.SaysD fa fn K) : ∃ fd, DefOk K mg g G "_law_pot" 0 ⟨2, n__law_pot.length, b__law_pot⟩ (He.ga K "_law_pot") fd p__law_pot "_law_pot" "_law_pot" s__law_pot n__law_pot 60 ∧ FunD K "_law_pot" "_law_pot" (defArgs s__law_pot) (defBody s__law_pot) (defScope s__law_pot) [] [] (He.ga K "_law_pot") fd := by
  obtain ⟨fd, F⟩ := c.def_ 0 (d := d__law_pot) rfl
  exact ⟨fd, ⟨rfl, He.glo_ok X N (c.fact 0 (f := .glo "_law_pot") rfl), fun_of F, sc__law_pot, FunD.bindsN (ps := p__law_pot) F fun _ _ _ _ _ _ us hl => match us, hl with | [_, _], _ => rfl, rfl, rfl, t__law_pot⟩, F⟩
theorem o__law_take (X : K.In h) (N : h.Ns mainGlobals mg) (c : He.SaysD fa fn K) : ∃ fd, DefOk K mg g G "_law_take" 1 ⟨2, n__law_take.length, b__law_take⟩ (He.ga K "_law_take") fd p__law_take "_law_take" "_law_take" s__law_take n__law_take 60 ∧ FunD K "_law_take" "_law_take" (defArgs s__law_take) (defBody s__law_take) (defScope s__law_take) [] [] (He.ga K "_law_take") fd := by
  obtain ⟨fd, F⟩ := c.def_ 1 (d := d__law_take) rfl
  exact ⟨fd, ⟨rfl, He.glo_ok X N (c.fact 1 (f := .glo "_law_take") rfl), fun_of F, sc__law_take, FunD.bindsN (ps := p__law_take) F fun _ _ _ _ _ _ us hl => match us, hl with | [_, _], _ => rfl, rfl, rfl, t__law_take⟩, F⟩
theorem o__law_of (X : K.In h) (N : h.Ns mainGlobals mg) (c : He.SaysD fa fn K) : ∃ fd, DefOk K mg g G "_law_of" 2 ⟨2, n__law_of.length, b__law_of⟩ (He.ga K "_law_of") fd p__law_of "_law_of" "_law_of" s__law_of n__law_of 60 ∧ FunD K "_law_of" "_law_of" (defArgs s__law_of) (defBody s__law_of) (defScope s__law_of) [] [] (He.ga K "_law_of") fd := by
  obtain ⟨fd, F⟩ := c.def_ 2 (d := d__law_of) rfl
  exact ⟨fd, ⟨rfl, He.glo_ok X N (c.fact 2 (f := .glo "_law_of") rfl), fun_of F, sc__law_of, FunD.bindsN (ps := p__law_of) F fun _ _ _ _ _ _ us hl => match us, hl with | [_, _], _ => rfl, rfl, rfl, t__law_of⟩, F⟩
theorem o__law_cells (X : K.In h) (N : h.Ns mainGlobals mg) (c : He.SaysD fa fn K) : ∃ fd, DefOk K mg g G "_law_cells" 3 ⟨2, n__law_cells.length, b__law_cells⟩ (He.ga K "_law_cells") fd p__law_cells "_law_cells" "_law_cells" s__law_cells n__law_cells 60 ∧ FunD K "_law_cells" "_law_cells" (defArgs s__law_cells) (defBody s__law_cells) (defScope s__law_cells) [] [] (He.ga K "_law_cells") fd := by
  obtain ⟨fd, F⟩ := c.def_ 3 (d := d__law_cells) rfl
  exact ⟨fd, ⟨rfl, He.glo_ok X N (c.fact 3 (f := .glo "_law_cells") rfl), fun_of F, sc__law_cells, FunD.bindsN (ps := p__law_cells) F fun _ _ _ _ _ _ us hl => match us, hl with | [_, _], _ => rfl, rfl, rfl, t__law_cells⟩, F⟩
theorem o__law_odd (X : K.In h) (N : h.Ns mainGlobals mg) (c : He.SaysD fa fn K) : ∃ fd, DefOk K mg g G "_law_odd" 4 ⟨1, n__law_odd.length, b__law_odd⟩ (He.ga K "_law_odd") fd p__law_odd "_law_odd" "_law_odd" s__law_odd n__law_odd 60 ∧ FunD K "_law_odd" "_law_odd" (defArgs s__law_odd) (defBody s__law_odd) (defScope s__law_odd) [] [] (He.ga K "_law_odd") fd := by
  obtain ⟨fd, F⟩ := c.def_ 4 (d := d__law_odd) rfl
  exact ⟨fd, ⟨rfl, He.glo_ok X N (c.fact 4 (f := .glo "_law_odd") rfl), fun_of F, sc__law_odd, FunD.bindsN (ps := p__law_odd) F fun _ _ _ _ _ _ us hl => match us, hl with | [_], _ => rfl, rfl, rfl, t__law_odd⟩, F⟩
theorem o__law_errors (X : K.In h) (N : h.Ns mainGlobals mg) (c : He.SaysD fa fn K) : ∃ fd, DefOk K mg g G "_law_errors" 5 ⟨1, n__law_errors.length, b__law_errors⟩ (He.ga K "_law_errors") fd p__law_errors "_law_errors" "_law_errors" s__law_errors n__law_errors 60 ∧ FunD K "_law_errors" "_law_errors" (defArgs s__law_errors) (defBody s__law_errors) (defScope s__law_errors) [] [] (He.ga K "_law_errors") fd := by
  obtain ⟨fd, F⟩ := c.def_ 5 (d := d__law_errors) rfl
  exact ⟨fd, ⟨rfl, He.glo_ok X N (c.fact 5 (f := .glo "_law_errors") rfl), fun_of F, sc__law_errors, FunD.bindsN (ps := p__law_errors) F fun _ _ _ _ _ _ us hl => match us, hl with | [_], _ => rfl, rfl, rfl, t__law_errors⟩, F⟩
theorem o__law_some_kinds (X : K.In h) (N : h.Ns mainGlobals mg) (c : He.SaysD fa fn K) : ∃ fd, DefOk K mg g G "_law_some_kinds" 6 ⟨1, n__law_some_kinds.length, b__law_some_kinds⟩ (He.ga K "_law_some_kinds") fd p__law_some_kinds "_law_some_kinds" "_law_some_kinds" s__law_some_kinds n__law_some_kinds 60 ∧ FunD K "_law_some_kinds" "_law_some_kinds" (defArgs s__law_some_kinds) (defBody s__law_some_kinds) (defScope s__law_some_kinds) [] [] (He.ga K "_law_some_kinds") fd := by
  obtain ⟨fd, F⟩ := c.def_ 6 (d := d__law_some_kinds) rfl
  exact ⟨fd, ⟨rfl, He.glo_ok X N (c.fact 6 (f := .glo "_law_some_kinds") rfl), fun_of F, sc__law_some_kinds, FunD.bindsN (ps := p__law_some_kinds) F fun _ _ _ _ _ _ us hl => match us, hl with | [_], _ => rfl, rfl, rfl, t__law_some_kinds⟩, F⟩
theorem o__law_kinds (X : K.In h) (N : h.Ns mainGlobals mg) (c : He.SaysD fa fn K) : ∃ fd, DefOk K mg g G "_law_kinds" 7 ⟨1, n__law_kinds.length, b__law_kinds⟩ (He.ga K "_law_kinds") fd p__law_kinds "_law_kinds" "_law_kinds" s__law_kinds n__law_kinds 60 ∧ FunD K "_law_kinds" "_law_kinds" (defArgs s__law_kinds) (defBody s__law_kinds) (defScope s__law_kinds) [] [] (He.ga K "_law_kinds") fd := by
  obtain ⟨fd, F⟩ := c.def_ 7 (d := d__law_kinds) rfl
  exact ⟨fd, ⟨rfl, He.glo_ok X N (c.fact 7 (f := .glo "_law_kinds") rfl), fun_of F, sc__law_kinds, FunD.bindsN (ps := p__law_kinds) F fun _ _ _ _ _ _ us hl => match us, hl with | [_], _ => rfl, rfl, rfl, t__law_kinds⟩, F⟩
theorem o__law_right (X : K.In h) (N : h.Ns mainGlobals mg) (c : He.SaysD fa fn K) : ∃ fd, DefOk K mg g G "_law_right" 8 ⟨1, n__law_right.length, b__law_right⟩ (He.ga K "_law_right") fd p__law_right "_law_right" "_law_right" s__law_right n__law_right 60 ∧ FunD K "_law_right" "_law_right" (defArgs s__law_right) (defBody s__law_right) (defScope s__law_right) [] [] (He.ga K "_law_right") fd := by
  obtain ⟨fd, F⟩ := c.def_ 8 (d := d__law_right) rfl
  exact ⟨fd, ⟨rfl, He.glo_ok X N (c.fact 8 (f := .glo "_law_right") rfl), fun_of F, sc__law_right, FunD.bindsN (ps := p__law_right) F fun _ _ _ _ _ _ us hl => match us, hl with | [_], _ => rfl, rfl, rfl, t__law_right⟩, F⟩
theorem o_law (X : K.In h) (N : h.Ns mainGlobals mg) (c : He.SaysD fa fn K) : ∃ fd, DefOk K mg g G "law" 9 ⟨1, n_law.length, b_law⟩ (He.ga K "law") fd p_law "law" "law" s_law n_law 60 ∧ FunD K "law" "law" (defArgs s_law) (defBody s_law) (defScope s_law) [] [] (He.ga K "law") fd := by
  obtain ⟨fd, F⟩ := c.def_ 9 (d := d_law) rfl
  exact ⟨fd, ⟨rfl, He.glo_ok X N (c.fact 9 (f := .glo "law") rfl), fun_of F, sc_law, FunD.bindsN (ps := p_law) F fun _ _ _ _ _ _ us hl => match us, hl with | [_], _ => rfl, rfl, rfl, t_law⟩, F⟩
end

theorem fa_all {K : PySem.W.Frag} (c : He.SaysD fa fn K) {f : He.Fa} (h : f ∈ fa) : f.ok K = true := by
  obtain ⟨i, hi, e⟩ := List.getElem_of_mem h
  exact c.fact i (f := f) (by rw [List.getElem?_eq_getElem hi, e])
theorem in_g {x : Str} {v : GV} (h : g.lookup x = some v) : (∃ k, v = .fn k) ∨ (v = .err ∧ x ∈ errs) ∨ (v = .blt ∧ x ∈ blts) := by
  have m := PySem.mem_of_lookup h
  unfold g at m
  rcases List.mem_append.mp m with m | m
  · left
    simp only [List.mem_cons, Prod.mk.injEq, List.not_mem_nil, or_false] at m
    rcases m with ⟨_, e⟩ | ⟨_, e⟩ | ⟨_, e⟩ | ⟨_, e⟩ | ⟨_, e⟩ | ⟨_, e⟩ | ⟨_, e⟩ | ⟨_, e⟩ | ⟨_, e⟩ | ⟨_, e⟩ <;> exact ⟨_, e⟩
  · right
    rcases List.mem_append.mp m with m | m
    · obtain ⟨y, hy, e⟩ := List.mem_map.mp m
      cases e
      exact .inl ⟨rfl, hy⟩
    · obtain ⟨y, hy, e⟩ := List.mem_map.mp m
      cases e
      exact .inr ⟨rfl, hy⟩
theorem gok {K : PySem.W.Frag} {h : Heap} {mg : Str → Option Value} (X : K.In h) (N : h.Ns mainGlobals mg) (c : He.SaysD fa fn K) : GOk g K mg := by
  refine ⟨fun x v e => ?_, fun x e => ?_⟩
  · rcases in_g e with ⟨k, z⟩ | ⟨z, _⟩ | ⟨z, _⟩ <;> cases z
  · rcases in_g e with ⟨k, z⟩ | ⟨z, _⟩ | ⟨_, z⟩
    · cases z
    · cases z
    · exact He.free_ok X N (fa_all c (List.mem_append_right _ (List.mem_append_right _ (List.mem_map.mpr ⟨x, z, rfl⟩))))
theorem dok {K : PySem.W.Frag} {h : Heap} {mg : Str → Option Value} (X : K.In h) (N : h.Ns mainGlobals mg) (c : He.SaysD fa fn K) : DefsOk K mg g G := by
  intro x k e
  have m := PySem.mem_of_lookup e
  unfold g at m
  rcases List.mem_append.mp m with m | m
  · simp only [List.mem_cons, Prod.mk.injEq, List.not_mem_nil, or_false, GV.fn.injEq] at m
    rcases m with ⟨rfl, rfl⟩ | ⟨rfl, rfl⟩ | ⟨rfl, rfl⟩ | ⟨rfl, rfl⟩ | ⟨rfl, rfl⟩ | ⟨rfl, rfl⟩ | ⟨rfl, rfl⟩ | ⟨rfl, rfl⟩ | ⟨rfl, rfl⟩ | ⟨rfl, rfl⟩
    · obtain ⟨fd, o, _⟩ := o__law_pot X N c
      exact ⟨_, _, _, _, _, _, _, _, _, o⟩
    · obtain ⟨fd, o, _⟩ := o__law_take X N c
      exact ⟨_, _, _, _, _, _, _, _, _, o⟩
    · obtain ⟨fd, o, _⟩ := o__law_of X N c
      exact ⟨_, _, _, _, _, _, _, _, _, o⟩
    · obtain ⟨fd, o, _⟩ := o__law_cells X N c
      exact ⟨_, _, _, _, _, _, _, _, _, o⟩
    · obtain ⟨fd, o, _⟩ := o__law_odd X N c
      exact ⟨_, _, _, _, _, _, _, _, _, o⟩
    · obtain ⟨fd, o, _⟩ := o__law_errors X N c
      exact ⟨_, _, _, _, _, _, _, _, _, o⟩
    · obtain ⟨fd, o, _⟩ := o__law_some_kinds X N c
      exact ⟨_, _, _, _, _, _, _, _, _, o⟩
    · obtain ⟨fd, o, _⟩ := o__law_kinds X N c
      exact ⟨_, _, _, _, _, _, _, _, _, o⟩
    · obtain ⟨fd, o, _⟩ := o__law_right X N c
      exact ⟨_, _, _, _, _, _, _, _, _, o⟩
    · obtain ⟨fd, o, _⟩ := o_law X N c
      exact ⟨_, _, _, _, _, _, _, _, _, o⟩
  · rcases List.mem_append.mp m with m | m
    · obtain ⟨y, hy, z⟩ := List.mem_map.mp m
      cases z
    · obtain ⟨y, hy, z⟩ := List.mem_map.mp m
      cases z
theorem initT : InitT iI := ⟨⟨_, _, _, _, _, _, _, _, _, _, _, _, _, rfl, fun _ _ _ _ _ _ _ _ _ => rfl, ⟨_, rfl, rfl⟩, by decide +kernel, rfl, rfl, rfl, by decide +kernel, by decide +kernel, by decide +kernel, by decide +kernel, by decide +kernel⟩⟩
theorem cok {P : Program} {K : PySem.W.Frag} {h : Heap} {mg : Str → Option Value} (X : K.In h) (N : h.Ns mainGlobals mg) (c : He.SaysD fa fn K) (c2 : clsAll P K x0 errs tI = true) (c3 : initO K x0 = iI) : COk P K mg g G :=
  cok_of (G := G) X N initT c3 c2 fun x e => by
    rcases in_g e with ⟨k, z⟩ | ⟨_, z⟩ | ⟨z, _⟩
    · cases z
    · exact ⟨by show errs.contains x = true; simpa using z, fa_all c (List.mem_append_right _ (List.mem_append_left _ (List.mem_map.mpr ⟨x, z, rfl⟩)))⟩
    · cases z
theorem rvs_ints {K : PySem.W.Frag} {ia : List Addr} {H : Hp} : ∀ ns : List Int, RVs K ia H (ns.map Val.int) (ns.map V.int)
  | [] => .nil
  | n :: ns => .cons (.int n) (rvs_ints ns)
end Lw
open PySem PySem.W PySem.Calls PyProof.Rows
theorem Lw.holds : PySem.Challenge.rw_somepoured_k00_errors_keep_their_value.Holds := by
  w_on; o_law
  refine HandSHeadRun.head_any (r := OpenLaw.row PySem.Challenge.rw_somepoured_k00_errors_keep_their_value) (q := view (OpenLaw.row PySem.Challenge.rw_somepoured_k00_errors_keep_their_value).prog [35]) (H := Lw.hk) (ob := Lw.ob) (M := 6000) (loose := Lw.loose) (d := HandSHeadRun.topDef (OpenLaw.row PySem.Challenge.rw_somepoured_k00_errors_keep_their_value).prog 35) (kwd := []) Lw.ob_eq
    (by kernel_rfl) (fun s => by kernel_rfl) Lw.run (by kernel_rfl) (by kernel_rfl) (by kernel_rfl) (by rfl) (by first | assumption | decide +kernel) (by decide +kernel) ⟨rfl, rfl, rfl, rfl, rfl, by decide +kernel⟩ ?hw ?hc
  case hw => w_witness2
  case hc =>
    refine Mi.walk_ofG (l := PySem.Challenge.rw_somepoured_k00_errors_keep_their_value) (n := 63) (k := 21) (x := "_law_script") (CX := fun w => L2.CX (PySem.Challenge.rw_somepoured_k00_errors_keep_their_value).prog w) rfl (by decide) (by kernel_rfl) ⟨rfl, by decide, by decide⟩ ?F (fun w H s e s' z => ?z)
    case z =>
      obtain ⟨_, _, _, _, _, _, _, _, _, _, _, _, z⟩ := z
      exact z
    intro w mg fa h Y G0 hmg0
    obtain ⟨K, KX, c, c2, c3⟩ := Y
    have hmg : mg ("law" : PySem.Str) = some (.ref fa) := by
      have e : (HandSHeadRun.topDef (OpenLaw.row PySem.Challenge.rw_somepoured_k00_errors_keep_their_value).prog 35).name = ("law" : PySem.Str) := by kernel_rfl
      rw [← e]
      exact hmg0
    obtain ⟨fd, o, F⟩ := Lw.o_law KX G0 c
    have e0 := hmg.symm.trans o.mg
    cases e0
    have b := L2.FunD.bindsA (ps := Lw.p_law) F fun _ _ _ _ _ _ us hl => match us, hl with | [_], _ => rfl
    refine ⟨K, fd, fun vs H Q E => ∃ n, Mi.spC K (He.ga K) ((Mi.run Lw.G n).c 20 9) vs H Q E, KX, fun s v => b s [v] rfl, fun H a ns hl _ hS => ?_, fun base kb nb => ?_⟩
    · obtain ⟨n, v, h', e, hv⟩ := (Lw.pure_law ns hl).get
      refine ⟨n, [], [], [.cl (ns.map .int)], ⟨rfl, List.nodup_nil, fun n o a e _ => by simp at e⟩, .cons (.cl hS (Lw.rvs_ints ns)) .nil, ?_⟩
      rw [e, hv]
      intro ka H' w _ _ r
      cases r
      rfl
    · have gok := Lw.gok KX G0 c
      have cok := Lw.cok (P := (PySem.Challenge.rw_somepoured_k00_errors_keep_their_value).prog) KX G0 c c2 c3
      exact Mi.fnG_ex fun n => Mi.def_ok gok cok o ((Mi.all_ok (P := (PySem.Challenge.rw_somepoured_k00_errors_keep_their_value).prog) (w := w) (base := base) (ca := He.ga K) gok cok (Lw.dok KX G0 c) n).2.2.1 n (Nat.le_refl _)) 20

set_option maxRecDepth 100000 in
set_option maxHeartbeats 8000000 in
theorem PySem.Challenge.cw_somepoured_k00_errors_keep_their_value_holds : PySem.Challenge.rw_somepoured_k00_errors_keep_their_value.Holds := by
  exact Lw.holds
