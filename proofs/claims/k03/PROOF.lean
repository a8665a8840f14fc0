import PyProof.Rows.All
import Wide.All
import OpenK.AllK
import Wide.FinOn
import HandS.Lambda
import HandS.ForMost
import HandS.ExcInit
import HandS.HeadHook1
import HandS.Slots
import HandS.TupAny
import HandS.Wide
import HandS.Deep
import HandS.Style
import HandS.Conv
import KE.KDictList
import PyProof.Rows.SetFrom
import HandS.Strs
import HandS.StrMore
import HandS.RaiseMore
import HandS.Zip
import HandS.Star
import HandS.Exc
import HandS.ExcOwn
import HandS.WordsExc
import KE.KExcSuper
import HandS.Base
import HandS.Call
import HandS.HeadWalk
import HandS.ExcField
import HandS.ExcIs
import HandS.IsInst
import HandS.Dict
import HandS.SlotsOwn
import KE.KExcIs
import HandS.Defaults
import KE.KOpsOwn
import PyProof.InstNe
import HandS.More
import HandS.FStr
import HandS.Small
import HandS.Head0
import HandS.Head1
import HandS.Head2
import HandS.HeadEnd
import HandS.HeadHook2
import HandS.EndTab
import KE.KStateDown
import PyProof.ReprLen
import KE.KIntText
import KE.IntTextText
import Wide.Txt
import PyProof.StrLawsChain
import PyProof.Rows.StrItems
import PySem.Challenge.RW_somepoured_k03_texts_of_parts
set_option Elab.async false
set_option linter.all false
set_option maxRecDepth 100000
set_option maxHeartbeats 1000000
/-! D1: the evaluator's values, its small heap, how they lie in the layer's heap. -/
namespace Mi
open PySem L2

/-- a value of the evaluator: tuples (ct: of the module's own), and lists that nobody writes, by what they hold; things that change by their number in the small heap -/
inductive Val where
  | non | bl (b : Bool) | int (i : Int) | str (x : Str) | tup (xs : List Val) | ct (xs : List Val) | cl (xs : List Val) | loc (n : Nat)
  /-- an own exception that keeps a value (its class by name); a value of which nothing is known -/
  | err (c : Str) (v : Val) | opq
instance : Inhabited Val := ⟨.non⟩
/-- a thing that changes -/
inductive Ob where
  | lst (xs : List Val)
  | dK (kvs : List (Key × Val))
  | dT (kvs : List (List Key × Val))
  | ins (c : Str) (fs : List (Str × Val))
  /-- an instance with slots -/
  | slt (c : Str) (fs : List (Option Val))
abbrev LH := List Ob
/-- what a run gives -/
inductive Res (α : Type) where
  | ok (a : α) (h : LH)
  | exc (c : Str) (v : Val) (h : LH)
  | bad
@[inline] def Res.bind {α β : Type} (r : Res α) (f : α → LH → Res β) : Res β := match r with
  | .ok a h => f a h
  | .exc c v h => .exc c v h
  | .bad => .bad

/-- a list that nobody writes -/
def FzL (K : PySem.W.Frag) (H : Hp) (a : Addr) (ys : List V) : Prop :=
  (∃ o, H a = some (.frz o (.lst ys))) ∨
    ∃ (o : Obj) (its : Array Value) (n : Nat), K.lookup a = some o ∧ o.cls = .type "list" ∧ o.dict = none ∧ o.data = .seq its n ∧ its.size ≤ sizeLine ∧ Vals ys its.toList
theorem FzL.sq {K : PySem.W.Frag} {H : Hp} {a : Addr} {ys : List V} (h : FzL K H a ys) : SqL K H a ys := by
  rcases h with ⟨o, h⟩ | h
  · exact .inl (.inr ⟨o, h⟩)
  · exact .inr h
theorem FzL.of_sq {K : PySem.W.Frag} {H : Hp} {a : Addr} {ys : List V} (h : SqL K H a ys) (n : ∀ zs, H a ≠ some (.lst zs)) : FzL K H a ys := by
  rcases h with (h | ⟨o, h⟩) | h
  · exact absurd h (n _)
  · exact .inl ⟨o, h⟩
  · exact .inr h

/-- a tuple of the module's own -/
def WrT (K : PySem.W.Frag) (a : Addr) (xs : List V) : Prop := ∃ (o : Obj) (its : Array Value) (n : Nat), K.lookup a = some o ∧ o.cls = .type "tuple" ∧ o.data = .seq its n ∧ its.size ≤ sizeLine ∧ Vals xs its.toList
theorem WrT.sq {K : PySem.W.Frag} {H : Hp} {a : Addr} {ys : List V} (h : WrT K a ys) : SqT K H a ys := .inr h
/-- an error that was caught -/
def exw (a C d : Addr) : HO := .ext fun h => ∃ o : Obj, h.get? a = some o ∧ o.cls = .ref C ∧ o.dict = some d ∧ ∃ vs, o.data = .fields vs
/-- an error -/
def ExP (H : Hp) (a C d : Addr) : Prop := H a = some (exo a C (some d)) ∨ H a = some (exw a C d)
/-- its dict -/
def ExD (H : Hp) (d : Addr) (w : V) : Prop := H d = some (exd d [("value", w)]) ∨ H d = some (.xd [("value", w)])
section
variable (K : PySem.W.Frag) (ia : List Addr) (H : Hp)
mutual
inductive RV : Val → V → Prop
  | non : RV .non .non
  | bl (b : Bool) : RV (.bl b) (.bl b)
  | int (i : Int) : RV (.int i) (.int i)
  | str (x : Str) : RV (.str x) (.str x)
  | loc {n : Nat} {a : Addr} : ia[n]? = some a → RV (.loc n) (.ref a)
  | tup {xs : List Val} {ys : List V} {a : Addr} : H a = some (.tup ys) → RVs xs ys → RV (.tup xs) (.ref a)
  | ct {xs : List Val} {ys : List V} {a : Addr} : WrT K a ys → RVs xs ys → RV (.ct xs) (.ref a)
  | cl {xs : List Val} {ys : List V} {a : Addr} : FzL K H a ys → RVs xs ys → RV (.cl xs) (.ref a)
  | err {c : Str} {v : Val} {w : V} {a d : Addr} : a ∉ ia → d ∉ ia → ExP H a (He.ga K c) d → ExD H d w → RV v w → RV (.err c v) (.ref a)
inductive RVs : List Val → List V → Prop
  | nil : RVs [] []
  | cons {x : Val} {xs : List Val} {y : V} {ys : List V} : RV x y → RVs xs ys → RVs (x :: xs) (y :: ys)
end
end

/-- the pairs of a dict -/
inductive RKV (K : PySem.W.Frag) (ia : List Addr) (H : Hp) {k : Type} : List (k × Val) → List (k × V) → Prop
  | nil : RKV K ia H [] []
  | cons {x : k} {v : Val} {w : V} {xs : List (k × Val)} {ys : List (k × V)} : RV K ia H v w → RKV K ia H xs ys → RKV K ia H ((x, v) :: xs) ((x, w) :: ys)

/-- the classes' places; the tables of code objects (the lambdas' makers) -/
structure CaT where
  fn : Str → Addr
  T : List (Addr × Str) := []
  /-- the fields' names of a class whose instances have a dict -/
  dn : Str → Option (List Str) := fun _ => none
instance : CoeFun CaT fun _ => Str → Addr := ⟨CaT.fn⟩
/-- a table -/
def TabI (ia : List Addr) (H : Hp) (P : Addr) (q : Str) : Prop := ∃ ps : Array Value, H P = some (.tbl ps) ∧ TriplesOk ps.toList ∧ ∀ (pos : Pos) (cv : Value), codeAmong pos ps.toList = some cv → ∃ c, cv = .ref c ∧ c ∉ ia ∧ H c = some (LamX.CodeO c q)
/-- an instance: with slots, or with a dict (dn: its fields' names, by place) -/
def Ist (dn : Option (List Str)) (H : Hp) (a C dx : Addr) (ws : List (Option V)) : Prop := match dn with
  | none => SlX.Slt H a C dx ws
  | some ns => ∃ gs, H a = some (.ins C dx gs) ∧ (∀ (i : Nat) (w : V), ws[i]? = some (some w) → ∃ f, ns[i]? = some f ∧ gs.lookup f = some w) ∧ (∀ f, f ∉ ns → gs.lookup f = none) ∧ (gs.map (·.1)).Nodup ∧ ∀ f ∈ gs.map (·.1), f ∈ ns
/-- how a thing lies at an address -/
def RO (K : PySem.W.Frag) (ca : CaT) (ia : List Addr) (H : Hp) (a : Addr) : Ob → Prop
  | .lst xs => ∃ ys, H a = some (.lst ys) ∧ RVs K ia H xs ys
  | .dK kvs => ∃ kws, H a = some (.dK kws) ∧ RKV K ia H kvs kws
  | .dT kvs => ∃ kws, H a = some (.dT kws) ∧ RKV K ia H kvs kws
  | .ins c fs => ∃ dx gs, H a = some (.ins (ca c) dx gs) ∧ RKV K ia H fs gs
  | .slt c fs => ∃ dx vs, Ist (ca.dn c) H a (ca c) dx vs ∧ dx ∉ ia ∧ (H dx = some (.own a) ∨ H dx = some (.xd [])) ∧ ∀ (i : Nat) (v : Val), fs[i]? = some (some v) → ∃ w, vs[i]? = some (some w) ∧ RV K ia H v w

/-- the small heap lies in the layer's, at the addresses ia -/
structure Rep (K : PySem.W.Frag) (ca : CaT) (ia : List Addr) (H : Hp) (h : LH) : Prop where
  len : ia.length = h.length
  nd : ia.Nodup
  ob : ∀ (n : Nat) (o : Ob) (a : Addr), h[n]? = some o → ia[n]? = some a → RO K ca ia H a o
  tab : ∀ p ∈ ca.T, TabI ia H p.1 p.2

/-- what lies elsewhere stays; nothing goes; what is new was free -/
structure Grow (ia : List Addr) (H : Hp) (ka : List Addr) (H' : Hp) : Prop where
  out : ∀ b o, H b = some o → b ∉ ia → (∀ y, o ≠ .own y) → (∀ ps, o ≠ .tbl ps) → H' b = some o
  old : ∀ b o, H b = some o → ∃ o', H' b = some o'
  new : ∀ b, b ∈ ka → H b = none
  own : ∀ b y, H b = some (.own y) → b ∉ ia → H' b = some (.own y) ∨ H' b = some (.xd [])
  fz : ∀ b o u, H b = some (.frz o u) → H' b = some (.frz o u)

theorem Grow.refl (ia : List Addr) (H : Hp) : Grow ia H [] H := ⟨fun _ _ h _ _ _ => h, fun _ o h => ⟨o, h⟩, (fun _ h => nomatch h), fun _ _ h _ => .inl h, fun _ _ _ h => h⟩
theorem Grow.trans {ia ka la : List Addr} {H H1 H2 : Hp} (g : Grow ia H ka H1) (g2 : Grow (ia ++ ka) H1 la H2) : Grow ia H (ka ++ la) H2 := by
  have nin : ∀ {b : Addr} {o : HO}, H b = some o → b ∉ ia → b ∉ ia ++ ka := fun {b o} e n z => by
    rcases List.mem_append.mp z with z | z
    · exact n z
    · rw [g.new b z] at e
      cases e
  refine ⟨fun b o h n no nt => ?_, fun b o h => ?_, fun b h => ?_, fun b y h n => ?_, fun b o u h => g2.fz b o u (g.fz b o u h)⟩
  · refine g2.out b o (g.out b o h n no nt) (fun z => ?_) no nt
    rcases List.mem_append.mp z with z | z
    · exact n z
    · rw [g.new b z] at h
      cases h
  · obtain ⟨o1, h1⟩ := g.old b o h
    exact g2.old b o1 h1
  · rcases List.mem_append.mp h with z | z
    · exact g.new b z
    · have e := g2.new b z
      cases q : H b with
      | none => rfl
      | some o =>
        obtain ⟨o1, h1⟩ := g.old b o q
        rw [h1] at e
        cases e
  · rcases g.own b y h n with q | q
    · exact g2.own b y q (nin h n)
    · exact .inr (g2.out b _ q (nin h n) (fun _ z => by cases z) (fun _ z => by cases z))

/-! ### what a value tells stays -/
section
variable {K : PySem.W.Frag} {ca : CaT} {ia ka : List Addr} {H H' : Hp} {h : LH}
/-- at the small heap's places stand things that change -/
theorem Rep.mem (R : Rep K ca ia H h) {a : Addr} (m : a ∈ ia) : ∃ o, RO K ca ia H a o := by
  obtain ⟨n, hn, e⟩ := List.getElem_of_mem m
  have hn' : n < h.length := by rw [← R.len]; exact hn
  exact ⟨h[n], R.ob n _ a (List.getElem?_eq_getElem hn') (by rw [List.getElem?_eq_getElem hn, e])⟩
/-- what stands at the place of a thing that changes -/
theorem RO.kind {a : Addr} {o : Ob} (r : RO K ca ia H a o) : ∃ u, H a = some u ∧ (∀ zs, u ≠ .tup zs) ∧ (∀ ob w, u ≠ .frz ob w) ∧ (∀ y, u ≠ .own y) ∧ (∀ fs, u ≠ .xd fs) ∧ ∀ ps, u ≠ .tbl ps := by
  cases o with
  | lst _ => obtain ⟨_, q, _⟩ := r; exact ⟨_, q, (fun _ z => by cases z), (fun _ _ z => by cases z), (fun _ z => by cases z), (fun _ z => by cases z), (fun _ z => by cases z)⟩
  | dK _ => obtain ⟨_, q, _⟩ := r; exact ⟨_, q, (fun _ z => by cases z), (fun _ _ z => by cases z), (fun _ z => by cases z), (fun _ z => by cases z), (fun _ z => by cases z)⟩
  | dT _ => obtain ⟨_, q, _⟩ := r; exact ⟨_, q, (fun _ z => by cases z), (fun _ _ z => by cases z), (fun _ z => by cases z), (fun _ z => by cases z), (fun _ z => by cases z)⟩
  | ins _ _ => obtain ⟨_, _, q, _⟩ := r; exact ⟨_, q, (fun _ z => by cases z), (fun _ _ z => by cases z), (fun _ z => by cases z), (fun _ z => by cases z), (fun _ z => by cases z)⟩
  | slt c _ =>
    obtain ⟨_, _, q, _⟩ := r
    generalize ca.dn c = dn at q
    cases dn with
    | none =>
      rcases q with ⟨q, _⟩ | ⟨q, _⟩
      · exact ⟨_, q, (fun _ z => by cases z), (fun _ _ z => by cases z), (fun _ z => by cases z), (fun _ z => by cases z), (fun _ z => by cases z)⟩
      · refine ⟨_, q, fun _ z => ?_, fun _ _ z => ?_, fun _ z => ?_, fun _ z => ?_, fun _ z => ?_⟩ <;> (unfold SlX.SlO at z; cases z)
    | some ns =>
      obtain ⟨_, q, _⟩ := q
      exact ⟨_, q, (fun _ z => by cases z), (fun _ _ z => by cases z), (fun _ z => by cases z), (fun _ z => by cases z), (fun _ z => by cases z)⟩
theorem Rep.no_tup (R : Rep K ca ia H h) {a : Addr} {ys : List V} (e : H a = some (.tup ys)) : a ∉ ia := fun m => by
  obtain ⟨o, r⟩ := R.mem m
  obtain ⟨u, q, z, _⟩ := r.kind
  rw [e] at q
  exact z _ (Option.some.inj q).symm
theorem Rep.no_frz (R : Rep K ca ia H h) {a : Addr} {ob : Obj} {u : HO} (e : H a = some (.frz ob u)) : a ∉ ia := fun m => by
  obtain ⟨o, r⟩ := R.mem m
  obtain ⟨u, q, _, z, _⟩ := r.kind
  rw [e] at q
  exact z _ _ (Option.some.inj q).symm
/-- a free place -/
theorem Rep.fresh (R : Rep K ca ia H h) {a : Addr} (e : H a = none) : a ∉ ia := fun m => by
  obtain ⟨o, r⟩ := R.mem m
  obtain ⟨u, q, _⟩ := r.kind
  rw [e] at q
  cases q
theorem sqt_stay {a : Addr} {ys : List V} (s : SqT K H a ys) (hs : ∀ zs, H a = some (.tup zs) → H' a = some (.tup zs)) (hf : ∀ o u, H a = some (.frz o u) → H' a = some (.frz o u)) : SqT K H' a ys := by
  rcases s with (s | ⟨o, s⟩) | s
  · exact .inl (.inl (hs _ s))
  · exact .inl (.inr ⟨o, hf _ _ s⟩)
  · exact .inr s
theorem FzL.stay {a : Addr} {ys : List V} (s : FzL K H a ys) (hf : ∀ o u, H a = some (.frz o u) → H' a = some (.frz o u)) : FzL K H' a ys := by
  rcases s with ⟨o, s⟩ | s
  · exact .inl ⟨o, hf _ _ s⟩
  · exact .inr s
/-- tuples and frozen things stay; of what lies elsewhere, exceptions and their dicts -/
structure Hold (ia ka : List Addr) (H H' : Hp) : Prop where
  tup : ∀ a zs, H a = some (.tup zs) → H' a = some (.tup zs)
  frz : ∀ a o u, H a = some (.frz o u) → H' a = some (.frz o u)
  ext : ∀ a f, a ∉ ia → H a = some (.ext f) → H' a = some (.ext f)
  xd : ∀ a f, a ∉ ia → H a = some (.xd f) → H' a = some (.xd f)
  new : ∀ a, a ∈ ka → H a = none
  old : ∀ b o, H b = some o → ∃ o', H' b = some o'
  own : ∀ b y, b ∉ ia → H b = some (.own y) → H' b = some (.own y) ∨ H' b = some (.xd [])
theorem Hold.refl (ia : List Addr) (H : Hp) : Hold ia [] H H := ⟨fun _ _ h => h, fun _ _ _ h => h, fun _ _ _ h => h, fun _ _ _ h => h, (fun _ h => nomatch h), fun _ o h => ⟨o, h⟩, fun _ _ _ h => .inl h⟩
theorem Hold.new' {a : Addr} {o : HO} (n : H a = none) (hk : ∀ b ∈ ka, b = a) : Hold ia ka H (upd H a o) :=
  ⟨fun b _ e => by rw [upd_ne (ne_of_none e n)]; exact e, fun b _ _ e => by rw [upd_ne (ne_of_none e n)]; exact e, fun b _ _ e => by rw [upd_ne (ne_of_none e n)]; exact e, fun b _ _ e => by rw [upd_ne (ne_of_none e n)]; exact e, fun b hb => by rw [hk b hb]; exact n, fun b o e => ⟨o, by rw [upd_ne (ne_of_none e n)]; exact e⟩, fun b y _ e => .inl (by rw [upd_ne (ne_of_none e n)]; exact e)⟩
theorem Hold.newL {a : Addr} {o : HO} (n : H a = none) : Hold ia [a] H (upd H a o) := Hold.new' n fun b hb => by simpa using hb
theorem Hold.newT {a : Addr} {o : HO} (n : H a = none) : Hold ia [] H (upd H a o) := Hold.new' n fun b hb => nomatch hb
theorem notin_app {a : Addr} {o : HO} (n : a ∉ ia) (e : H a = some o) (k : ∀ b, b ∈ ka → H b = none) : a ∉ ia ++ ka := fun z => by
  rcases List.mem_append.mp z with z | z
  · exact n z
  · rw [k a z] at e
    cases e
mutual
theorem RV.stay (k : Hold ia ka H H') : ∀ {v : Val} {w : V}, RV K ia H v w → RV K (ia ++ ka) H' v w
  | _, _, .non => .non
  | _, _, .bl b => .bl b
  | _, _, .int i => .int i
  | _, _, .str x => .str x
  | _, _, .loc e => .loc (by rw [List.getElem?_append_left (List.getElem?_eq_some_iff.mp e).1]; exact e)
  | _, _, .tup s r => .tup (k.tup _ _ s) (RVs.stay k r)
  | _, _, .ct s r => .ct s (RVs.stay k r)
  | _, _, .cl s r => .cl (s.stay (k.frz _)) (RVs.stay k r)
  | _, _, .err n1 n2 s d r => .err (s.elim (fun s => notin_app n1 s k.new) (fun s => notin_app n1 s k.new)) (d.elim (fun d => notin_app n2 d k.new) (fun d => notin_app n2 d k.new)) (s.imp (k.ext _ _ n1) (k.ext _ _ n1)) (d.imp (k.ext _ _ n2) (k.xd _ _ n2)) (RV.stay k r)
theorem RVs.stay (k : Hold ia ka H H') : ∀ {v : List Val} {w : List V}, RVs K ia H v w → RVs K (ia ++ ka) H' v w
  | _, _, .nil => .nil
  | _, _, .cons a b => .cons (RV.stay k a) (RVs.stay k b)
end
theorem RKV.stay {t : Type} (k : Hold ia ka H H') : ∀ {v : List (t × Val)} {w : List (t × V)}, RKV K ia H v w → RKV K (ia ++ ka) H' v w
  | _, _, .nil => .nil
  | _, _, .cons a b => .cons (a.stay k) (RKV.stay k b)
theorem Grow.hold (g : Grow ia H ka H') (R : Rep K ca ia H h) : Hold ia ka H H' :=
  ⟨fun a zs e => g.out a _ e (R.no_tup e) (fun _ z => by cases z) (fun _ z => by cases z), fun a o u e => g.fz a o u e, fun a f n e => g.out a _ e n (fun _ z => by cases z) (fun _ z => by cases z), fun a f n e => g.out a _ e n (fun _ z => by cases z) (fun _ z => by cases z), g.new, g.old, fun b y n e => g.own b y e n⟩
theorem RV.grow {v : Val} {w : V} (r : RV K ia H v w) (g : Grow ia H ka H') (R : Rep K ca ia H h) : RV K (ia ++ ka) H' v w := r.stay (g.hold R)
theorem RVs.grow {v : List Val} {w : List V} (r : RVs K ia H v w) (g : Grow ia H ka H') (R : Rep K ca ia H h) : RVs K (ia ++ ka) H' v w := r.stay (g.hold R)
theorem RVs.len : ∀ {v : List Val} {w : List V}, RVs K ia H v w → v.length = w.length
  | _, _, .nil => rfl
  | _, _, .cons _ r => by simp [RVs.len r]
theorem RVs.get : ∀ {v : List Val} {w : List V} {i : Nat} {x : Val}, RVs K ia H v w → v[i]? = some x → ∃ y, w[i]? = some y ∧ RV K ia H x y
  | _, _, _, _, .nil, e => by simp at e
  | _, _, 0, _, .cons a _, e => by simp at e; subst e; exact ⟨_, rfl, a⟩
  | _, _, i + 1, x, .cons _ r, e => by
    obtain ⟨y, h1, h2⟩ := RVs.get (i := i) (x := x) r (by simpa using e)
    exact ⟨y, by simpa using h1, h2⟩
theorem RVs.app : ∀ {v v' : List Val} {w w' : List V}, RVs K ia H v w → RVs K ia H v' w' → RVs K ia H (v ++ v') (w ++ w')
  | _, _, _, _, .nil, s => s
  | _, _, _, _, .cons a r, s => .cons a (RVs.app r s)
theorem RVs.take : ∀ {v : List Val} {w : List V} (n : Nat), RVs K ia H v w → RVs K ia H (v.take n) (w.take n)
  | _, _, 0, _ => .nil
  | _, _, _ + 1, .nil => .nil
  | _, _, n + 1, .cons a r => .cons a (RVs.take n r)
theorem RVs.drop : ∀ {v : List Val} {w : List V} (n : Nat), RVs K ia H v w → RVs K ia H (v.drop n) (w.drop n)
  | _, _, 0, r => r
  | _, _, _ + 1, .nil => .nil
  | _, _, n + 1, .cons _ r => RVs.drop n r
theorem RVs.set {x : Val} {y : V} (r : RV K ia H x y) : ∀ {v : List Val} {w : List V} (i : Nat), RVs K ia H v w → RVs K ia H (v.set i x) (w.set i y)
  | _, _, _, .nil => .nil
  | _, _, 0, .cons _ t => .cons r t
  | _, _, i + 1, .cons a t => .cons a (RVs.set r i t)

/-! ### a new thing, a thing changed -/
/-- a thing of the small heap, looked up -/
theorem Rep.at_ (R : Rep K ca ia H h) {n : Nat} {a : Addr} {o : Ob} (e : h[n]? = some o) (r : ia[n]? = some a) : RO K ca ia H a o := R.ob n o a e r
theorem RO.stay {a : Addr} {o : Ob} (k : Hold ia ka H H') (e : H' a = H a) (r : RO K ca ia H a o) : RO K ca (ia ++ ka) H' a o := by
  cases o with
  | lst xs => obtain ⟨ys, q, s⟩ := r; exact ⟨ys, e.trans q, s.stay k⟩
  | dK xs => obtain ⟨ys, q, s⟩ := r; exact ⟨ys, e.trans q, s.stay k⟩
  | dT xs => obtain ⟨ys, q, s⟩ := r; exact ⟨ys, e.trans q, s.stay k⟩
  | ins c xs => obtain ⟨dx, ys, q, s⟩ := r; exact ⟨dx, ys, e.trans q, s.stay k⟩
  | slt c xs =>
    obtain ⟨dx, vs, q, n, hu, s⟩ := r
    have n2 : dx ∉ ia ++ ka := by
      rcases hu with hu | hu
      · exact notin_app n hu k.new
      · exact notin_app n hu k.new
    refine ⟨dx, vs, ?_, n2, ?_, fun i v h => let ⟨w, h1, h2⟩ := s i v h; ⟨w, h1, h2.stay k⟩⟩
    · generalize ca.dn c = dn at q ⊢
      cases dn with
      | none =>
        rcases q with ⟨q1, q2⟩ | ⟨q1, q2⟩
        · exact .inl ⟨e.trans q1, q2⟩
        · exact .inr ⟨e.trans q1, k.xd dx _ n q2⟩
      | some ns =>
        obtain ⟨gs, q1, q2⟩ := q
        exact ⟨gs, e.trans q1, q2⟩
    · rcases hu with hu | hu
      · exact k.own dx _ n hu
      · exact .inr (k.xd dx _ n hu)
theorem TabI.stay {P : Addr} {q : Str} (t : TabI ia H P q) (k : Hold ia ka H H') (e : ∀ P ps, H P = some (.tbl ps) → H' P = some (.tbl ps)) : TabI (ia ++ ka) H' P q := by
  obtain ⟨ps, h1, h2, h3⟩ := t
  refine ⟨ps, e _ _ h1, h2, fun pos cv hc => ?_⟩
  obtain ⟨c, e1, e2, e3⟩ := h3 pos cv hc
  exact ⟨c, e1, notin_app e2 e3 k.new, k.ext c _ e2 e3⟩
theorem tbl_new {p : Addr} {O : HO} (n : H p = none) : ∀ P ps, H P = some (.tbl ps) → upd H p O P = some (.tbl ps) := fun P ps e => by rw [upd_ne (ne_of_none e n)]; exact e
theorem app_nil (l : List Addr) : l ++ ([] : List Addr) = l := List.append_nil l
/-- a new thing -/
theorem Rep.push (R : Rep K ca ia H h) {p : Addr} {o : Ob} {O : HO} (n : H p = none) (r : RO K ca (ia ++ [p]) (upd H p O) p o) : Rep K ca (ia ++ [p]) (upd H p O) (h ++ [o]) := by
  have np : p ∉ ia := R.fresh n
  refine ⟨by simp [R.len], ?_, fun m o' a e1 e2 => ?_, fun q hq => (R.tab q hq).stay (Hold.newL n) (tbl_new n)⟩
  · rw [List.nodup_append]
    refine ⟨R.nd, by simp, fun x hx y hy z => ?_⟩
    have e : y = p := by simpa using hy
    exact np (by rw [← e, ← z]; exact hx)
  · by_cases hm : m < h.length
    · rw [List.getElem?_append_left hm] at e1
      have hm' : m < ia.length := by rw [R.len]; exact hm
      rw [List.getElem?_append_left hm'] at e2
      have ne : a ≠ p := fun z => np (by rw [← z]; exact List.mem_of_getElem? e2)
      exact (R.ob m o' a e1 e2).stay (Hold.newL n) (upd_ne ne)
    · have hm2 : m = h.length := by
        have := (List.getElem?_eq_some_iff.mp e1).1
        simp at this
        omega
      subst hm2
      have e1' : o = o' := by simpa using e1
      have e2' : p = a := by
        rw [← R.len] at e2
        simpa using e2
      subst e1' e2'
      exact r
theorem Grow.push {p : Addr} {O : HO} (n : H p = none) : Grow ia H [p] (upd H p O) :=
  ⟨fun b o e _ _ _ => by rw [upd_ne (ne_of_none e n)]; exact e, fun b o e => ⟨o, by rw [upd_ne (ne_of_none e n)]; exact e⟩, (fun b hb => by
    have e : b = p := by simpa using hb
    rw [e]; exact n), fun b y e _ => .inl (by rw [upd_ne (ne_of_none e n)]; exact e), fun b o u e => by rw [upd_ne (ne_of_none e n)]; exact e⟩
/-- a thing changed -/
theorem Rep.set (R : Rep K ca ia H h) {m : Nat} {p : Addr} {o : Ob} {O : HO} (hm : ia[m]? = some p) (k : Hold ia [] H (upd H p O)) (r : RO K ca ia (upd H p O) p o) : Rep K ca ia (upd H p O) (h.set m o) := by
  refine ⟨by simp [R.len], R.nd, fun j o' a e1 e2 => ?_, fun q hq => by
    have z := (R.tab q hq).stay (ka := []) k fun P ps e => by
      obtain ⟨_, r⟩ := R.mem (List.mem_of_getElem? hm)
      obtain ⟨u, e2, _, _, _, _, nt⟩ := r.kind
      rw [upd_ne (fun z => nt ps (by rw [z, e2] at e; exact Option.some.inj e))]
      exact e
    rw [app_nil] at z
    exact z⟩
  by_cases hj : j = m
  · subst hj
    rw [hm] at e2
    cases e2
    have hl : j < h.length := by rw [← R.len]; exact (List.getElem?_eq_some_iff.mp hm).1
    rw [List.getElem?_set_self hl] at e1
    cases e1
    exact r
  · rw [List.getElem?_set_ne (Ne.symm hj)] at e1
    have ne : a ≠ p := fun z => by
      subst z
      obtain ⟨h1, e3⟩ := List.getElem?_eq_some_iff.mp e2
      obtain ⟨h2, e4⟩ := List.getElem?_eq_some_iff.mp hm
      exact hj ((List.getElem_inj R.nd).mp (e3.trans e4.symm))
    have q := (R.ob j o' a e1 e2).stay (ka := []) k (upd_ne ne)
    rw [app_nil] at q
    exact q
theorem Grow.set {m : Nat} {p : Addr} {O : HO} {u : HO} (hm : ia[m]? = some p) (e0 : H p = some u) (hf : ∀ o w, u ≠ .frz o w := by intro o w z; cases z) : Grow ia H [] (upd H p O) := by
  refine ⟨fun b o e nb _ _ => ?_, fun b o e => ?_, (fun b hb => nomatch hb), fun b y e nb => .inl ?_, fun b o w e => ?_⟩
  · have ne : b ≠ p := fun z => nb (by rw [z]; exact List.mem_of_getElem? hm)
    rw [upd_ne ne]; exact e
  · by_cases hb : b = p
    · rw [hb, upd_same]; exact ⟨_, rfl⟩
    · rw [upd_ne hb]; exact ⟨o, e⟩
  · have ne : b ≠ p := fun z => nb (by rw [z]; exact List.mem_of_getElem? hm)
    rw [upd_ne ne]; exact e
  · have ne : b ≠ p := fun z => by rw [z, e0] at e; exact hf o w (Option.some.inj e)
    rw [upd_ne ne]; exact e
/-- a thing at p is changed -/
theorem Hold.setIn {p : Addr} {O u : HO} (e : H p = some u) (hp : p ∈ ia) (h1 : ∀ zs, u ≠ .tup zs) (h2 : ∀ o w, u ≠ .frz o w) : Hold ia [] H (upd H p O) := by
  refine ⟨fun a zs q => ?_, fun a o w q => ?_, fun a f n q => ?_, fun a f n q => ?_, (fun _ z => nomatch z), fun b o q => ?_, fun a y n q => .inl ?_⟩
  · have ne : a ≠ p := fun z => by rw [z, e] at q; exact h1 zs (Option.some.inj q)
    rw [upd_ne ne]; exact q
  · have ne : a ≠ p := fun z => by rw [z, e] at q; exact h2 o w (Option.some.inj q)
    rw [upd_ne ne]; exact q
  · have ne : a ≠ p := fun z => n (by rw [z]; exact hp)
    rw [upd_ne ne]; exact q
  · have ne : a ≠ p := fun z => n (by rw [z]; exact hp)
    rw [upd_ne ne]; exact q
  · by_cases hb : b = p
    · rw [hb, upd_same]; exact ⟨_, rfl⟩
    · rw [upd_ne hb]; exact ⟨o, q⟩
  · have ne : a ≠ p := fun z => n (by rw [z]; exact hp)
    rw [upd_ne ne]; exact q
theorem Hold.set {p : Addr} {O u : HO} (e : H p = some u) (h1 : ∀ zs, u ≠ .tup zs) (h2 : ∀ o w, u ≠ .frz o w) (h3 : ∀ f, u ≠ .ext f := by intro f z; cases z) (h4 : ∀ f, u ≠ .xd f := by intro f z; cases z) (h5 : ∀ f, u ≠ .own f := by intro f z; cases z) : Hold ia [] H (upd H p O) := by
  refine ⟨fun a zs q => ?_, fun a o w q => ?_, fun a f _ q => ?_, fun a f _ q => ?_, (fun _ z => nomatch z), fun b o q => ?_, fun a y _ q => .inl ?_⟩
  · have ne : a ≠ p := fun z => by rw [z, e] at q; exact h1 zs (Option.some.inj q)
    rw [upd_ne ne]; exact q
  · have ne : a ≠ p := fun z => by rw [z, e] at q; exact h2 o w (Option.some.inj q)
    rw [upd_ne ne]; exact q
  · have ne : a ≠ p := fun z => by rw [z, e] at q; exact h3 f (Option.some.inj q)
    rw [upd_ne ne]; exact q
  · have ne : a ≠ p := fun z => by rw [z, e] at q; exact h4 f (Option.some.inj q)
    rw [upd_ne ne]; exact q
  · by_cases hb : b = p
    · rw [hb, upd_same]; exact ⟨_, rfl⟩
    · rw [upd_ne hb]; exact ⟨o, q⟩
  · have ne : a ≠ p := fun z => by rw [z, e] at q; exact h5 y (Option.some.inj q)
    rw [upd_ne ne]; exact q
end
end Mi

set_option Elab.async false
set_option linter.all false
set_option maxRecDepth 100000
set_option maxHeartbeats 1000000
/-! D2: what a run wants of the layer. -/
namespace Mi
open PySem L2
abbrev LS := List (Option Val)
/-- the slots -/
structure RS (K : PySem.W.Frag) (ia : List Addr) (H : Hp) (sl : LS) (st : St) : Prop where
  len : sl.length = st.length
  at_ : ∀ (i : Nat) (v : Val), sl[i]? = some (some v) → ∃ w, st[i]? = some (some w) ∧ RV K ia H v w
section
variable {K : PySem.W.Frag} {ca : CaT} {ia ka : List Addr} {H H' : Hp} {h : LH}
theorem RS.stay {sl : LS} {st : St} (k : Hold ia ka H H') (r : RS K ia H sl st) : RS K (ia ++ ka) H' sl st :=
  ⟨r.len, fun i v e => let ⟨w, q, z⟩ := r.at_ i v e; ⟨w, q, z.stay k⟩⟩
theorem RS.grow {sl : LS} {st : St} (r : RS K ia H sl st) (g : Grow ia H ka H') (R : Rep K ca ia H h) : RS K (ia ++ ka) H' sl st := r.stay (g.hold R)
theorem RS.set {sl : LS} {st : St} {i : Nat} {v : Val} {w : V} (r : RS K ia H sl st) (q : RV K ia H v w) : RS K ia H (sl.set i (some v)) (st.set i (some w)) := by
  refine ⟨by simp [r.len], fun j u e => ?_⟩
  by_cases hj : i = j
  · subst hj
    by_cases hi : i < sl.length
    · rw [List.getElem?_set_self hi] at e
      cases e
      exact ⟨w, List.getElem?_set_self (by rw [← r.len]; exact hi), q⟩
    · rw [List.getElem?_eq_none (by simpa using hi)] at e
      cases e
  · rw [List.getElem?_set_ne hj] at e
    obtain ⟨w', e', q'⟩ := r.at_ j u e
    exact ⟨w', by rw [List.getElem?_set_ne hj]; exact e', q'⟩
end

section
variable (K : PySem.W.Frag) (ca : CaT)
/-- a result's wish: of a value and a heap, of an exception -/
def Want (ia : List Addr) (H : Hp) (r : Res Val) (Q : VK) (E : XK) : Prop := match r with
  | .ok v h' => ∀ (ka : List Addr) (H' : Hp) (w : V), Grow ia H ka H' → Rep K ca (ia ++ ka) H' h' → RV K (ia ++ ka) H' v w → Q w H'
  | .exc c v h' => ∀ (ka : List Addr) (H' : Hp) (d : Addr) (w : V), Grow ia H ka H' → Rep K ca (ia ++ ka) H' h' → H' d = some (.xd [("value", w)]) → RV K (ia ++ ka) H' v w → E (.ref (ca c)) (some d) H'
  | .bad => False
def WantL (ia : List Addr) (H : Hp) (r : Res (List Val)) (Q : List V → Hp → Prop) (E : XK) : Prop := match r with
  | .ok v h' => ∀ (ka : List Addr) (H' : Hp) (w : List V), Grow ia H ka H' → Rep K ca (ia ++ ka) H' h' → RVs K (ia ++ ka) H' v w → Q w H'
  | .exc c v h' => ∀ (ka : List Addr) (H' : Hp) (d : Addr) (w : V), Grow ia H ka H' → Rep K ca (ia ++ ka) H' h' → H' d = some (.xd [("value", w)]) → RV K (ia ++ ka) H' v w → E (.ref (ca c)) (some d) H'
  | .bad => False
def WantB (ia : List Addr) (H : Hp) (r : Res Bool) (Q : Bool → Hp → Prop) (E : XK) : Prop := match r with
  | .ok v h' => ∀ (ka : List Addr) (H' : Hp), Grow ia H ka H' → Rep K ca (ia ++ ka) H' h' → Q v H'
  | .exc c v h' => ∀ (ka : List Addr) (H' : Hp) (d : Addr) (w : V), Grow ia H ka H' → Rep K ca (ia ++ ka) H' h' → H' d = some (.xd [("value", w)]) → RV K (ia ++ ka) H' v w → E (.ref (ca c)) (some d) H'
  | .bad => False
/-- the wish of an exception among the slots -/
abbrev WS := Value → Option Addr → St → Hp → Prop
abbrev M (a : Type) := LS → LH → Res a
/-- an expression's reading, by its run; vs, xs: values in hand -/
def tC (W : WS) (vs : List Val) (xs : List V) (m : M Val) : TE := fun st H Q => ∃ (ia : List Addr) (sl : LS) (h : LH), Rep K ca ia H h ∧ RS K ia H sl st ∧ RVs K ia H vs xs ∧ Want K ca ia H (m sl h) Q (fun c d H' => W c d st H')
def tCL (W : WS) (vs : List Val) (xs : List V) (m : M (List Val)) : TA := fun st H Q => ∃ (ia : List Addr) (sl : LS) (h : LH), Rep K ca ia H h ∧ RS K ia H sl st ∧ RVs K ia H vs xs ∧ WantL K ca ia H (m sl h) Q (fun c d H' => W c d st H')
def tCB (W : WS) (vs : List Val) (xs : List V) (m : M Bool) : TT := fun st H Q => ∃ (ia : List Addr) (sl : LS) (h : LH), Rep K ca ia H h ∧ RS K ia H sl st ∧ RVs K ia H vs xs ∧ WantB K ca ia H (m sl h) Q (fun c d H' => W c d st H')
abbrev tOf (W : WS) (m : M Val) : TE := tC K ca W [] [] m
abbrev tOfL (W : WS) (m : M (List Val)) : TA := tCL K ca W [] [] m
abbrev tOfB (W : WS) (m : M Bool) : TT := tCB K ca W [] [] m
end

section
variable {K : PySem.W.Frag} {ca : CaT} {ia ka : List Addr} {H H1 : Hp} {h : LH} {W : WS} {vs : List Val} {xs : List V} {st : St}
theorem Want.shift {r : Res Val} {Q : VK} {E : XK} (w : Want K ca ia H r Q E) (g : Grow ia H ka H1) : Want K ca (ia ++ ka) H1 r Q E := by
  cases r with
  | bad => exact w
  | ok v h' =>
    intro la H' y g2 R r
    rw [List.append_assoc] at R r
    exact w (ka ++ la) H' y (g.trans g2) R r
  | exc c v h' =>
    intro la H' d y g2 R hd r
    rw [List.append_assoc] at R r
    exact w (ka ++ la) H' d y (g.trans g2) R hd r
theorem WantL.shift {r : Res (List Val)} {Q : List V → Hp → Prop} {E : XK} (w : WantL K ca ia H r Q E) (g : Grow ia H ka H1) : WantL K ca (ia ++ ka) H1 r Q E := by
  cases r with
  | bad => exact w
  | ok v h' =>
    intro la H' y g2 R r
    rw [List.append_assoc] at R r
    exact w (ka ++ la) H' y (g.trans g2) R r
  | exc c v h' =>
    intro la H' d y g2 R hd r
    rw [List.append_assoc] at R r
    exact w (ka ++ la) H' d y (g.trans g2) R hd r
theorem WantB.shift {r : Res Bool} {Q : Bool → Hp → Prop} {E : XK} (w : WantB K ca ia H r Q E) (g : Grow ia H ka H1) : WantB K ca (ia ++ ka) H1 r Q E := by
  cases r with
  | bad => exact w
  | ok v h' =>
    intro la H' g2 R
    rw [List.append_assoc] at R
    exact w (ka ++ la) H' (g.trans g2) R
  | exc c v h' =>
    intro la H' d y g2 R hd r
    rw [List.append_assoc] at R r
    exact w (ka ++ la) H' d y (g.trans g2) R hd r
theorem Want.mono {r : Res Val} {Q Q' : VK} {E : XK} (w : Want K ca ia H r Q E) (k : ∀ x H', Q x H' → Q' x H') : Want K ca ia H r Q' E := by
  cases r with
  | bad => exact w
  | ok v h' => exact fun la H' y g R r => k _ _ (w la H' y g R r)
  | exc c v h' => exact w
theorem tC.mono {m : M Val} {Q Q' : VK} (t : tC K ca W vs xs m st H Q) (k : ∀ x H', Q x H' → Q' x H') : tC K ca W vs xs m st H Q' := by
  obtain ⟨ia, sl, h, R, S, V, w⟩ := t
  exact ⟨ia, sl, h, R, S, V, w.mono k⟩
/-- the value is at hand: what is wanted of it -/
theorem Want.now {v : Val} {y : V} {Q : VK} {E : XK} (w : Want K ca ia H (.ok v h) Q E) (R : Rep K ca ia H h) (r : RV K ia H v y) : Q y H := by
  have := w [] H y (Grow.refl ia H) (by rw [app_nil]; exact R) (by rw [app_nil]; exact r)
  exact this
theorem WantL.now {v : List Val} {y : List V} {Q : List V → Hp → Prop} {E : XK} (w : WantL K ca ia H (.ok v h) Q E) (R : Rep K ca ia H h) (r : RVs K ia H v y) : Q y H :=
  w [] H y (Grow.refl ia H) (by rw [app_nil]; exact R) (by rw [app_nil]; exact r)
theorem WantB.now {b : Bool} {Q : Bool → Hp → Prop} {E : XK} (w : WantB K ca ia H (.ok b h) Q E) (R : Rep K ca ia H h) : Q b H :=
  w [] H (Grow.refl ia H) (by rw [app_nil]; exact R)
/-- a run, then what follows it -/
theorem tC.step {m : M Val} {f : Val → M Val} {Q : VK} (t : tC K ca W vs xs (fun sl h => (m sl h).bind fun v h1 => f v sl h1) st H Q) :
    tOf K ca W m st H (fun x H1 => ∃ v, tC K ca W (v :: vs) (x :: xs) (f v) st H1 Q) := by
  obtain ⟨ia, sl, h, R, S, V, w⟩ := t
  refine ⟨ia, sl, h, R, S, .nil, ?_⟩
  dsimp only at w
  cases e : m sl h with
  | bad => rw [e] at w; exact w
  | exc c v h' => rw [e] at w; exact w
  | ok v h1 =>
    rw [e] at w
    exact fun ka H1 x g R1 r1 => ⟨v, ia ++ ka, sl, h1, R1, S.grow g R, .cons r1 (V.grow g R), Want.shift w g⟩
theorem tC.stepL {m : M (List Val)} {f : List Val → M Val} {Q : VK} (t : tC K ca W vs xs (fun sl h => (m sl h).bind fun v h1 => f v sl h1) st H Q) :
    tOfL K ca W m st H (fun ys H1 => ∃ ws, tC K ca W (ws ++ vs) (ys ++ xs) (f ws) st H1 Q ∧ ws.length = ys.length) := by
  obtain ⟨ia, sl, h, R, S, V, w⟩ := t
  refine ⟨ia, sl, h, R, S, .nil, ?_⟩
  dsimp only at w
  cases e : m sl h with
  | bad => rw [e] at w; exact w
  | exc c v h' => rw [e] at w; exact w
  | ok v h1 =>
    rw [e] at w
    exact fun ka H1 x g R1 r1 => ⟨v, ⟨ia ++ ka, sl, h1, R1, S.grow g R, r1.app (V.grow g R), Want.shift w g⟩, r1.len⟩
theorem tC.stepB {m : M Bool} {f : Bool → M Val} {Q : VK} (t : tC K ca W vs xs (fun sl h => (m sl h).bind fun v h1 => f v sl h1) st H Q) :
    tOfB K ca W m st H (fun b H1 => tC K ca W vs xs (f b) st H1 Q) := by
  obtain ⟨ia, sl, h, R, S, V, w⟩ := t
  refine ⟨ia, sl, h, R, S, .nil, ?_⟩
  dsimp only at w
  cases e : m sl h with
  | bad => rw [e] at w; exact w
  | exc c v h' => rw [e] at w; exact w
  | ok v h1 =>
    rw [e] at w
    exact fun ka H1 g R1 => ⟨ia ++ ka, sl, h1, R1, S.grow g R, V.grow g R, Want.shift w g⟩
theorem tCB.step {m : M Val} {f : Val → M Bool} {Q : Bool → Hp → Prop} (t : tCB K ca W vs xs (fun sl h => (m sl h).bind fun v h1 => f v sl h1) st H Q) :
    tOf K ca W m st H (fun x H1 => ∃ v, tCB K ca W (v :: vs) (x :: xs) (f v) st H1 Q) := by
  obtain ⟨ia, sl, h, R, S, V, w⟩ := t
  refine ⟨ia, sl, h, R, S, .nil, ?_⟩
  dsimp only at w
  cases e : m sl h with
  | bad => rw [e] at w; exact w
  | exc c v h' => rw [e] at w; exact w
  | ok v h1 =>
    rw [e] at w
    exact fun ka H1 x g R1 r1 => ⟨v, ia ++ ka, sl, h1, R1, S.grow g R, .cons r1 (V.grow g R), WantB.shift w g⟩
theorem tCB.stepB {m : M Bool} {f : Bool → M Bool} {Q : Bool → Hp → Prop} (t : tCB K ca W vs xs (fun sl h => (m sl h).bind fun v h1 => f v sl h1) st H Q) :
    tOfB K ca W m st H (fun b H1 => tCB K ca W vs xs (f b) st H1 Q) := by
  obtain ⟨ia, sl, h, R, S, V, w⟩ := t
  refine ⟨ia, sl, h, R, S, .nil, ?_⟩
  dsimp only at w
  cases e : m sl h with
  | bad => rw [e] at w; exact w
  | exc c v h' => rw [e] at w; exact w
  | ok v h1 =>
    rw [e] at w
    exact fun ka H1 g R1 => ⟨ia ++ ka, sl, h1, R1, S.grow g R, V.grow g R, WantB.shift w g⟩
theorem tCL.step {m : M Val} {f : Val → M (List Val)} {Q : List V → Hp → Prop} (t : tCL K ca W vs xs (fun sl h => (m sl h).bind fun v h1 => f v sl h1) st H Q) :
    tOf K ca W m st H (fun x H1 => ∃ v, tCL K ca W (v :: vs) (x :: xs) (f v) st H1 Q) := by
  obtain ⟨ia, sl, h, R, S, V, w⟩ := t
  refine ⟨ia, sl, h, R, S, .nil, ?_⟩
  dsimp only at w
  cases e : m sl h with
  | bad => rw [e] at w; exact w
  | exc c v h' => rw [e] at w; exact w
  | ok v h1 =>
    rw [e] at w
    exact fun ka H1 x g R1 r1 => ⟨v, ia ++ ka, sl, h1, R1, S.grow g R, .cons r1 (V.grow g R), WantL.shift w g⟩
theorem tCL.stepL {m : M (List Val)} {f : List Val → M (List Val)} {Q : List V → Hp → Prop} (t : tCL K ca W vs xs (fun sl h => (m sl h).bind fun v h1 => f v sl h1) st H Q) :
    tOfL K ca W m st H (fun ys H1 => ∃ ws, tCL K ca W (ws ++ vs) (ys ++ xs) (f ws) st H1 Q ∧ ws.length = ys.length) := by
  obtain ⟨ia, sl, h, R, S, V, w⟩ := t
  refine ⟨ia, sl, h, R, S, .nil, ?_⟩
  dsimp only at w
  cases e : m sl h with
  | bad => rw [e] at w; exact w
  | exc c v h' => rw [e] at w; exact w
  | ok v h1 =>
    rw [e] at w
    exact fun ka H1 x g R1 r1 => ⟨v, ⟨ia ++ ka, sl, h1, R1, S.grow g R, r1.app (V.grow g R), WantL.shift w g⟩, r1.len⟩
end

/-! ### readings weakened -/
section
variable {X : Cx}
theorem pe_imp {e : Expr} {t t' : TE} (h : PE X e t) (k : ∀ st H Q, t' st H Q → t st H Q) : PE X e t' := ⟨fun pins s st H Q I q => h.run pins s st H Q I (k st H Q q)⟩
theorem pt_imp {e : Expr} {t t' : TT} (h : PT X e t) (k : ∀ st H Q, t' st H Q → t st H Q) : PT X e t' := ⟨fun pins s st H Q I q => h.run pins s st H Q I (k st H Q q)⟩
theorem pa_imp {e : List Expr} {t t' : TA} (h : PA X e t) (k : ∀ st H Q, t' st H Q → t st H Q) : PA X e t' := ⟨fun pos pins s st H Q I q => h.run pos pins s st H Q I (k st H Q q)⟩
theorem ps_imp {e : Stmt} {t t' : TS} (h : PS X e t) (k : ∀ D st H, t' D st H → t D st H) : PS X e t' := ⟨fun pins s st H D I q => h.run pins s st H D I (k D st H q)⟩
theorem pss_imp {e : List Stmt} {t t' : TS} (h : PSs X e t) (k : ∀ D st H, t' D st H → t D st H) : PSs X e t' := ⟨fun pins s st H D I q => h.run pins s st H D I (k D st H q)⟩
end
end Mi

set_option Elab.async false
set_option linter.all false
set_option maxRecDepth 100000
set_option maxHeartbeats 1000000
/-! D3: operators by values. -/
namespace Mi
open PySem L2 PyProof.Rows
section
variable (K : PySem.W.Frag) (ca : CaT)
/-- an operation of two values, by its run -/
def rV2 (f : Val → Val → LH → Res Val) : R2 := fun x y H Q => ∃ (ia : List Addr) (h : LH) (v w : Val) (E : XK), Rep K ca ia H h ∧ RV K ia H v x ∧ RV K ia H w y ∧ Want K ca ia H (f v w h) Q E
def rV1 (f : Val → LH → Res Val) : V → Hp → VK → Prop := fun x H Q => ∃ (ia : List Addr) (h : LH) (v : Val) (E : XK), Rep K ca ia H h ∧ RV K ia H v x ∧ Want K ca ia H (f v h) Q E
/-- a call of values -/
def rVL (f : List Val → LH → Res Val) : List V → Hp → VK → Prop := fun xs H Q => ∃ (ia : List Addr) (h : LH) (vs : List Val) (E : XK), Rep K ca ia H h ∧ RVs K ia H vs xs ∧ Want K ca ia H (f vs h) Q E
end

/-! ### a new list, a new tuple -/
section
variable {K : PySem.W.Frag} {ca : CaT} {ia : List Addr} {H : Hp} {h : LH}
def newL (xs : List Val) (h : LH) : Res Val := .ok (.loc h.length) (h ++ [.lst xs])
theorem Want.newL {xs : List Val} {ys : List V} {Q : VK} {E : XK} (w : Want K ca ia H (newL xs h) Q E) (R : Rep K ca ia H h) (r : RVs K ia H xs ys) : ∀ p, H p = none → Q (.ref p) (upd H p (.lst ys)) := fun p n => by
  refine w [p] _ (.ref p) (Grow.push n) (R.push n ⟨ys, upd_same, r.stay (Hold.newL n)⟩) (.loc ?_)
  rw [← R.len]
  simp
theorem Want.newT {xs : List Val} {ys : List V} {Q : VK} {E : XK} (w : Want K ca ia H (.ok (.tup xs) h) Q E) (R : Rep K ca ia H h) (r : RVs K ia H xs ys) : ∀ p, H p = none → Q (.ref p) (upd H p (.tup ys)) := fun p n => by
  have k : Hold ia [] H (upd H p (.tup ys)) := Hold.newT n
  refine w [] _ (.ref p) ⟨fun b o e _ _ _ => by rw [upd_ne (ne_of_none e n)]; exact e, fun b o e => ⟨o, by rw [upd_ne (ne_of_none e n)]; exact e⟩, (fun _ z => nomatch z), fun b y e _ => .inl (by rw [upd_ne (ne_of_none e n)]; exact e), fun b o u e => by rw [upd_ne (ne_of_none e n)]; exact e⟩ ?_ (.tup upd_same (r.stay k))
  rw [app_nil]
  refine ⟨R.len, R.nd, fun m o a e1 e2 => ?_, fun q hq => by
    have z := (R.tab q hq).stay (ka := []) k (tbl_new n)
    rw [app_nil] at z
    exact z⟩
  have q := R.ob m o a e1 e2
  have ne : a ≠ p := fun z => by
    rw [z] at q
    obtain ⟨_, q, _⟩ := q.kind
    rw [n] at q
    cases q
  have z := q.stay (ka := []) k (upd_ne ne)
  rw [app_nil] at z
  exact z
/-- a list of the small heap -/
theorem Rep.lst (R : Rep K ca ia H h) {n : Nat} {xs : List Val} {x : V} (e : h[n]? = some (.lst xs)) (r : RV K ia H (.loc n) x) : ∃ a ys, x = .ref a ∧ ia[n]? = some a ∧ H a = some (.lst ys) ∧ RVs K ia H xs ys := by
  cases r with
  | loc q =>
    obtain ⟨ys, h1, h2⟩ := R.ob n _ _ e q
    exact ⟨_, ys, rfl, q, h1, h2⟩
end

/-! ### the operators -/
def chk (b : Bool) (r : Res Val) : Res Val := match b with | true => r | false => .bad
def vAdd (v w : Val) (h : LH) : Res Val := match v, w with
  | .int i, .int j => .ok (.int (i + j)) h
  | .str a, .str b => chk (decide (a.length + b.length ≤ sizeLine)) (.ok (.str (a ++ b)) h)
  | .tup a, .tup b => chk (decide (a.length + b.length ≤ sizeLine)) (.ok (.tup (a ++ b)) h)
  | .loc m, .loc n => (match h[m]?, h[n]? with
    | some (.lst a), some (.lst b) => chk (decide (a.length + b.length ≤ sizeLine)) (newL (a ++ b) h)
    | _, _ => .bad)
  | _, _ => .bad
def vSub (v w : Val) (h : LH) : Res Val := match v, w with
  | .int i, .int j => .ok (.int (i - j)) h
  | _, _ => .bad
def vMul (v w : Val) (h : LH) : Res Val := match v, w with
  | .int i, .int j => chk (decide (i.natAbs.log2 + j.natAbs.log2 < 1000000)) (.ok (.int (i * j)) h)
  | .loc m, .int k => (match h[m]? with
    | some (.lst a) => chk (decide (-(2 ^ 63) ≤ k ∧ k < 2 ^ 63 ∧ a.length * k.toNat ≤ sizeLine)) (newL (List.replicate k.toNat a).flatten h)
    | _ => .bad)
  | _, _ => .bad
def vDiv (v w : Val) (h : LH) : Res Val := match v, w with
  | .int i, .int j => chk (decide (j ≠ 0 ∧ j.natAbs.log2 < 9000)) (.ok (.int (i.fdiv j)) h)
  | _, _ => .bad
def vMod (v w : Val) (h : LH) : Res Val := match v, w with
  | .int i, .int j => chk (decide (j ≠ 0)) (.ok (.int (i.fmod j)) h)
  | _, _ => .bad
def vPow (v w : Val) (h : LH) : Res Val := match v, w with
  | .int i, .int j => chk (decide (0 ≤ j ∧ (i.natAbs.log2 + 1 : Int) * j ≤ 2 ^ 27)) (.ok (.int (i ^ j.toNat)) h)
  | _, _ => .bad
def vNeg (v : Val) (h : LH) : Res Val := match v with
  | .int i => .ok (.int (-i)) h
  | _ => .bad
theorem chk_ok {K : PySem.W.Frag} {ca : CaT} {ia : List Addr} {H : Hp} {b : Bool} {r : Res Val} {Q : VK} {E : XK} (w : Want K ca ia H (chk b r) Q E) : b = true ∧ Want K ca ia H r Q E := by
  cases b with
  | true => exact ⟨rfl, w⟩
  | false => exact (show False from w).elim
theorem rvs_rep {K : PySem.W.Frag} {ia : List Addr} {H : Hp} {xs : List Val} {ys : List V} (r : RVs K ia H xs ys) : ∀ n : Nat, RVs K ia H (List.replicate n xs).flatten (List.replicate n ys).flatten
  | 0 => .nil
  | n + 1 => by
    rw [List.replicate_succ, List.replicate_succ, List.flatten_cons, List.flatten_cons]
    exact r.app (rvs_rep r n)
section
variable {X : Cx} {ca : CaT}
theorem ov_add : OpR X (binaryOp .Add) (rV2 X.K ca vAdd) := by
  intro pins s st H x y v u Q I rx ry ⟨ia, h, a, b, E, R, ra, rb, w⟩
  unfold vAdd at w
  split at w
  · cases ra; cases rb
    exact op_add pins s st H _ _ v u Q I rx ry ⟨_, _, rfl, rfl, w.now R (.int _)⟩
  · obtain ⟨c, w⟩ := chk_ok w
    cases ra; cases rb
    exact op_add_str pins s st H _ _ v u Q I rx ry ⟨_, _, rfl, rfl, of_decide_eq_true c, w.now R (.str _)⟩
  · obtain ⟨c, w⟩ := chk_ok w
    have c := of_decide_eq_true c
    cases ra with
    | tup s1 r1 =>
      cases rb with
      | tup s2 r2 =>
        have l1 := r1.len
        have l2 := r2.len
        refine op_catA pins s st H _ _ v u Q I rx ry ⟨_, _, _, _, rfl, rfl, SqT.of s1, SqT.of s2, by omega, fun z => ?_, fun _ z => ?_, fun _ _ => w.newT R (r1.app r2)⟩
        · refine w.now R (.tup s2 ?_)
          subst z
          cases r1
          exact r2
        · refine w.now R (.tup s1 ?_)
          subst z
          cases r2
          rw [List.append_nil]
          exact r1
  · split at w
    · rename_i e1 e2
      obtain ⟨c, w⟩ := chk_ok w
      have c := of_decide_eq_true c
      obtain ⟨p, ys, rfl, _, h1, r1⟩ := R.lst e1 ra
      obtain ⟨q, zs, rfl, _, h2, r2⟩ := R.lst e2 rb
      have l1 := r1.len
      have l2 := r2.len
      exact op_cat pins s st H _ _ v u Q I rx ry ⟨_, _, _, _, rfl, rfl, h1, h2, by omega, w.newL R (r1.app r2)⟩
    · exact (show False from w).elim
  · exact (show False from w).elim
theorem ov_sub : OpR X (binaryOp .Sub) (rV2 X.K ca vSub) := by
  intro pins s st H x y v u Q I rx ry ⟨ia, h, a, b, E, R, ra, rb, w⟩
  unfold vSub at w
  split at w
  · cases ra; cases rb
    exact op_sub pins s st H _ _ v u Q I rx ry ⟨_, _, rfl, rfl, w.now R (.int _)⟩
  · exact (show False from w).elim
theorem ov_mul : OpR X (binaryOp .Mult) (rV2 X.K ca vMul) := by
  intro pins s st H x y v u Q I rx ry ⟨ia, h, a, b, E, R, ra, rb, w⟩
  unfold vMul at w
  split at w
  · obtain ⟨c, w⟩ := chk_ok w
    cases ra; cases rb
    have c := of_decide_eq_true c
    exact op_mulW pins s st H _ _ v u Q I rx ry ⟨_, _, rfl, rfl, c, w.now R (.int _)⟩
  · split at w
    · rename_i e1
      obtain ⟨c, w⟩ := chk_ok w
      obtain ⟨c1, c2, c3⟩ := of_decide_eq_true c
      obtain ⟨p, ys, rfl, _, h1, r1⟩ := R.lst e1 ra
      cases rb
      have l1 := r1.len
      exact op_rep pins s st H _ _ v u Q I rx ry ⟨_, _, _, rfl, rfl, h1, c1, c2, by rw [← l1]; exact c3, w.newL R (rvs_rep r1 _)⟩
    · exact (show False from w).elim
  · exact (show False from w).elim
theorem ov_div : OpR X (binaryOp .FloorDiv) (rV2 X.K ca vDiv) := by
  intro pins s st H x y v u Q I rx ry ⟨ia, h, a, b, E, R, ra, rb, w⟩
  unfold vDiv at w
  split at w
  · obtain ⟨c, w⟩ := chk_ok w
    obtain ⟨c1, c2⟩ := of_decide_eq_true c
    cases ra; cases rb
    obtain ⟨t, rfl⟩ := rx
    obtain ⟨t', rfl⟩ := ry
    exact floordiv_int c1 ⟨.int _, H, I.tok _, ⟨_, rfl⟩, w.now R (.int _)⟩ (.inl (PyProof.noPylong_of_log2 c2))
  · exact (show False from w).elim
theorem ov_mod : OpR X (binaryOp .Mod) (rV2 X.K ca vMod) := by
  intro pins s st H x y v u Q I rx ry ⟨ia, h, a, b, E, R, ra, rb, w⟩
  unfold vMod at w
  split at w
  · obtain ⟨c, w⟩ := chk_ok w
    cases ra; cases rb
    exact op_modN pins s st H _ _ v u Q I rx ry ⟨_, _, rfl, rfl, of_decide_eq_true c, w.now R (.int _)⟩
  · exact (show False from w).elim
theorem bits_le (i : Int) : (Builtin.Int.intBits i : Int) ≤ i.natAbs.log2 + 1 := by
  unfold Builtin.Int.intBits
  split <;> omega
theorem ov_pow : OpR X (binaryOp .Pow) (rV2 X.K ca vPow) := by
  intro pins s st H x y v u Q I rx ry ⟨ia, h, a, b, E, R, ra, rb, w⟩
  unfold vPow at w
  split at w
  · obtain ⟨c, w⟩ := chk_ok w
    obtain ⟨c1, c2⟩ := of_decide_eq_true c
    cases ra; cases rb
    obtain ⟨t, rfl⟩ := rx
    obtain ⟨t', rfl⟩ := ry
    exact pow_int c1 (Int.le_trans (Int.mul_le_mul_of_nonneg_right (bits_le _) c1) c2) ⟨.int _, H, I.tok _, ⟨_, rfl⟩, w.now R (.int _)⟩
  · exact (show False from w).elim
theorem uv_neg : UnR X (unaryOp .USub) (rV1 X.K ca vNeg) := by
  intro pins s st H x v Q I rx ⟨ia, h, a, E, R, ra, w⟩
  unfold vNeg at w
  split at w
  · cases ra
    exact un_neg pins s st H _ v Q I rx ⟨_, rfl, w.now R (.int _)⟩
  · exact (show False from w).elim
end
end Mi

set_option Elab.async false
set_option linter.all false
set_option maxRecDepth 100000
set_option maxHeartbeats 1000000
/-! D4: comparisons, places, lengths, truth, by values. -/
namespace Mi
open PySem L2 PyProof.Rows
/-! ### data -/
def mapO (f : Val → Option PyData) : List Val → Option (List PyData)
  | [] => some []
  | x :: xs => match f x, mapO f xs with
    | some d, some ds => some (d :: ds)
    | _, _ => none
/-- what == sees of a value -/
def toD : Nat → LH → Val → Option PyData
  | 0, _, _ => none
  | n + 1, h, v => match v with
    | .non => some .none
    | .bl b => some (.bool b)
    | .int i => some (.int i)
    | .str x => some (.str x)
    | .tup xs => (mapO (toD n h) xs).map .tuple
    | .ct xs => (mapO (toD n h) xs).map .tuple
    | .cl xs => (mapO (toD n h) xs).map .list
    | .loc m => (match h[m]? with
      | some (.lst xs) => (mapO (toD n h) xs).map .list
      | _ => none)
    | _ => none
section
variable {K : PySem.W.Frag} {ca : CaT} {ia : List Addr} {H : Hp} {h : LH}
theorem mapO_ok {f : Val → Option PyData} (hf : ∀ v x d, f v = some d → RV K ia H v x → Dp K H x d) : ∀ {vs : List Val} {xs : List V} {ds : List PyData}, mapO f vs = some ds → RVs K ia H vs xs → DpAll K H xs ds
  | _, _, _, e, .nil => by cases e; exact .nil
  | v :: vs, x :: xs, ds, e, .cons r t => by
    unfold mapO at e
    split at e
    · rename_i d ds' e1 e2
      cases e
      exact .cons (hf v x d e1 r) (mapO_ok hf e2 t)
    · cases e
theorem toD_ok (R : Rep K ca ia H h) : ∀ {n : Nat} {v : Val} {x : V} {d : PyData}, toD n h v = some d → RV K ia H v x → Dp K H x d
  | 0, _, _, _, e, _ => by cases e
  | n + 1, v, x, d, e, r => by
    have ih : ∀ v x d, toD n h v = some d → RV K ia H v x → Dp K H x d := fun v x d => toD_ok R
    cases r with
    | non => cases e; exact .non
    | bl b => cases e; exact .bl b
    | int i => cases e; exact .int i
    | str z => cases e; exact .str z
    | tup s r =>
      obtain ⟨ds, e1, e2⟩ := Option.map_eq_some_iff.mp (show (mapO (toD n h) _).map PyData.tuple = some d from e)
      subst e2
      exact .tup (SqT.of s) (mapO_ok ih e1 r)
    | ct s r =>
      obtain ⟨ds, e1, e2⟩ := Option.map_eq_some_iff.mp (show (mapO (toD n h) _).map PyData.tuple = some d from e)
      subst e2
      exact .tup s.sq (mapO_ok ih e1 r)
    | cl s r =>
      obtain ⟨ds, e1, e2⟩ := Option.map_eq_some_iff.mp (show (mapO (toD n h) _).map PyData.list = some d from e)
      subst e2
      exact .lst s.sq (mapO_ok ih e1 r)
    | @loc m a q =>
      have e' : (match h[m]? with
        | some (.lst xs) => (mapO (toD n h) xs).map PyData.list
        | _ => none) = some d := e
      split at e'
      · rename_i xs em
        obtain ⟨ds, e1, e2⟩ := Option.map_eq_some_iff.mp e'
        subst e2
        obtain ⟨ys, h1, h2⟩ := R.ob m _ _ em q
        exact .lst (SqL.of h1) (mapO_ok ih e1 h2)
      · cases e'
    | err _ _ _ => cases e
end
/-! ### == and the like -/
/-- both told apart by their kinds and what they are -/
def scl (v w : Val) : Option Bool := match v, w with
  | .non, .non => some true
  | .int i, .int j => some (decide (i = j))
  | .bl a, .bl b => some (decide (a = b))
  | .str a, .str b => some (decide (a = b))
  | .non, .int _ => some false | .int _, .non => some false | .non, .bl _ => some false | .bl _, .non => some false
  | .non, .str _ => some false | .str _, .non => some false | .int _, .str _ => some false | .str _, .int _ => some false
  | .bl _, .str _ => some false | .str _, .bl _ => some false
  | _, _ => none
def eqB (v w : Val) (h : LH) : Option Bool := match scl v w with
  | some b => some b
  | none => match toD 40 h v, toD 40 h w with
    | some d, some e => if SeqAt.shaped d && SeqAt.shaped e then some (PyData.eqv d e) else none
    | _, _ => none
def ofB (o : Option Bool) (h : LH) : Res Val := match o with | some b => .ok (.bl b) h | none => .bad
def vEq (v w : Val) (h : LH) : Res Val := ofB (eqB v w h) h
def vNe (v w : Val) (h : LH) : Res Val := ofB ((eqB v w h).map (!·)) h
theorem scl_ok {K : PySem.W.Frag} {ia : List Addr} {H : Hp} {v w : Val} {x y : V} {b : Bool} (e : scl v w = some b) (r : RV K ia H v x) (q : RV K ia H w y) : scal x y = true ∧ decide (x = y) = b := by
  unfold scl at e
  split at e <;> cases e <;> cases r <;> cases q <;> refine ⟨rfl, ?_⟩ <;> simp
def vLt (v w : Val) (h : LH) : Res Val := match v, w with
  | .int i, .int j => .ok (.bl (decide (i < j))) h
  | .str a, .str b => .ok (.bl (decide (a.cps.toList < b.cps.toList))) h
  | _, _ => .bad
def vLe (v w : Val) (h : LH) : Res Val := match v, w with
  | .int i, .int j => .ok (.bl (decide (i ≤ j))) h
  | _, _ => .bad
def vGt (v w : Val) (h : LH) : Res Val := match v, w with
  | .int i, .int j => .ok (.bl (decide (j < i))) h
  | _, _ => .bad
def vGe (v w : Val) (h : LH) : Res Val := match v, w with
  | .int i, .int j => .ok (.bl (decide (j ≤ i))) h
  | _, _ => .bad
def isNon : Val → Bool
  | .non => true
  | _ => false
/-- is anything known of it -/
def kn : Val → Bool
  | .opq => false
  | _ => true
/-- is None, is True .. -/
def vIs (v w : Val) (h : LH) : Res Val := match w with
  | .non => chk (kn v) (.ok (.bl (isNon v)) h)
  | .bl b => (match v with | .bl a => .ok (.bl (decide (a = b))) h | _ => .bad)
  | _ => .bad
def vIsn (v w : Val) (h : LH) : Res Val := match w with
  | .non => chk (kn v) (.ok (.bl (!isNon v)) h)
  | .bl b => (match v with | .bl a => .ok (.bl (!decide (a = b))) h | _ => .bad)
  | _ => .bad
/-! ### in -/
def keyOf : Val → Option Key
  | .int i => some (.inl i)
  | .str x => some (.inr x)
  | _ => none
def keysOf : List Val → Option (List Key)
  | [] => some []
  | v :: vs => match keyOf v, keysOf vs with
    | some k, some ks => some (k :: ks)
    | _, _ => none
section
variable {kt : Type} [DecidableEq kt]
def look (kvs : List (kt × Val)) (k : kt) : Option Val := (kvs.find? fun kv => decide (kv.1 = k)).map (·.2)
def put (kvs : List (kt × Val)) (k : kt) (v : Val) : List (kt × Val) :=
  if (kvs.any fun kv => decide (kv.1 = k)) = true then kvs.map (fun kv => if kv.1 = k then (kv.1, v) else kv) else kvs ++ [(k, v)]
variable {K : PySem.W.Frag} {ia : List Addr} {H : Hp}
theorem look_ok : ∀ {kvs : List (kt × Val)} {kws : List (kt × V)} (k : kt), RKV K ia H kvs kws → (look kvs k = none ∧ valV kws k = none) ∨ ∃ v w, look kvs k = some v ∧ valV kws k = some w ∧ RV K ia H v w
  | _, _, k, .nil => .inl ⟨rfl, rfl⟩
  | _, _, k, .cons (x := x) (v := v) (w := w) r t => by
    by_cases e : x = k
    · refine .inr ⟨v, w, ?_, ?_, r⟩
      · simp [look, e]
      · simp [valV, e]
    · have e1 : ∀ (l : List (kt × Val)), look ((x, v) :: l) k = look l k := fun l => by simp [look, List.find?, e]
      have e2 : ∀ (l : List (kt × V)), valV ((x, w) :: l) k = valV l k := fun l => by simp [valV, List.find?, e]
      rw [e1, e2]
      exact look_ok k t
theorem any_ok : ∀ {kvs : List (kt × Val)} {kws : List (kt × V)} (k : kt), RKV K ia H kvs kws → (kvs.any fun kv => decide (kv.1 = k)) = kws.any fun kv => decide (kv.1 = k)
  | _, _, _, .nil => rfl
  | _, _, k, .cons _ t => by rw [List.any_cons, List.any_cons, any_ok k t]
theorem map_ok {v : Val} {w : V} (q : RV K ia H v w) : ∀ {kvs : List (kt × Val)} {kws : List (kt × V)} (k : kt), RKV K ia H kvs kws → RKV K ia H (kvs.map (fun kv => if kv.1 = k then (kv.1, v) else kv)) (kws.map (fun kv => if kv.1 = k then (kv.1, w) else kv))
  | _, _, _, .nil => .nil
  | _, _, k, .cons (x := x) r t => by
    rw [List.map_cons, List.map_cons]
    by_cases e : x = k
    · rw [if_pos e, if_pos e]; exact .cons q (map_ok q k t)
    · rw [if_neg e, if_neg e]; exact .cons r (map_ok q k t)
theorem RKV.app : ∀ {kvs kvs' : List (kt × Val)} {kws kws' : List (kt × V)}, RKV K ia H kvs kws → RKV K ia H kvs' kws' → RKV K ia H (kvs ++ kvs') (kws ++ kws')
  | _, _, _, _, .nil, s => s
  | _, _, _, _, .cons r t, s => .cons r (RKV.app t s)
theorem RKV.len : ∀ {kvs : List (kt × Val)} {kws : List (kt × V)}, RKV K ia H kvs kws → kvs.length = kws.length
  | _, _, .nil => rfl
  | _, _, .cons _ t => by simp [RKV.len t]
theorem put_ok {v : Val} {w : V} (q : RV K ia H v w) {kvs : List (kt × Val)} {kws : List (kt × V)} (k : kt) (r : RKV K ia H kvs kws) : RKV K ia H (put kvs k v) (putK kws k w) := by
  unfold put putK
  rw [any_ok k r]
  split
  · exact map_ok q k r
  · exact r.app (.cons q .nil)
end
section
variable {K : PySem.W.Frag} {ca : CaT} {ia : List Addr} {H : Hp} {h : LH}
theorem keyOf_ok {v : Val} {x : V} {k : Key} (e : keyOf v = some k) (r : RV K ia H v x) : x = kV k := by
  cases r <;> cases e <;> rfl
theorem keysOf_ok : ∀ {vs : List Val} {xs : List V} {ks : List Key}, keysOf vs = some ks → RVs K ia H vs xs → xs = ks.map kV
  | _, _, _, e, .nil => by cases e; rfl
  | _, _, _, e, .cons r t => by
    unfold keysOf at e
    split at e
    · rename_i k ks e1 e2
      cases e
      rw [keyOf_ok e1 r, keysOf_ok e2 t]
      rfl
    · cases e
end
/-- what a dict of the small heap holds at a key -/
def dGet (o : Ob) (k : Val) : Option (Option Val) := match o with
  | .dK kvs => (keyOf k).map (look kvs)
  | .dT kvs => (match k with
    | .tup ks => (keysOf ks).map (look kvs)
    | _ => none)
  | _ => none
def memD (d : PyData) (o : Option PyData) : Option Bool := match o with
  | some (.list ds) => if SeqAt.shaped d && SeqAt.shaped (.list ds) then some (ds.any fun z => PyData.eqv z d) else none
  | some (.tuple ds) => if SeqAt.shaped d && SeqAt.shaped (.tuple ds) then some (ds.any fun z => PyData.eqv z d) else none
  | _ => none
def inS (v w : Val) (h : LH) : Option Bool := match toD 40 h v with
  | some d => memD d (toD 40 h w)
  | none => none
def inB (v w : Val) (h : LH) : Option Bool := match w with
  | .str b => (match v with
    | .str a => some (!(Builtin.Str.occurrences b a 0 b.length 1).isEmpty)
    | _ => none)
  | .loc m => (match h[m]? with
    | some (.lst _) => inS v w h
    | some o => (dGet o v).map (·.isSome)
    | none => none)
  | _ => inS v w h
def vIn (v w : Val) (h : LH) : Res Val := ofB (inB v w h) h
def vNin (v w : Val) (h : LH) : Res Val := ofB ((inB v w h).map (!·)) h
section
variable {K : PySem.W.Frag} {ca : CaT} {ia : List Addr} {H : Hp} {h : LH}
theorem dGet_ok (R : Rep K ca ia H h) {m : Nat} {o : Ob} {v : Val} {x y : V} {g : Option Val} (e : h[m]? = some o) (d : dGet o v = some g) (rm : RV K ia H (.loc m) y) (r : RV K ia H v x) :
    ∃ a g', y = .ref a ∧ DGet H a x g' ∧ ((g = none ∧ g' = none) ∨ ∃ u w, g = some u ∧ g' = some w ∧ RV K ia H u w) := by
  cases rm with
  | @loc _ a q =>
    have ro := R.ob m o a e q
    cases o with
    | dK kvs =>
      obtain ⟨kws, h1, r1⟩ := ro
      obtain ⟨k, e1, e2⟩ := Option.map_eq_some_iff.mp (show (keyOf v).map (look kvs) = some g from d)
      have ex := keyOf_ok e1 r
      subst ex e2
      exact ⟨a, valV kws k, rfl, DGet.k h1, look_ok k r1⟩
    | dT kvs =>
      obtain ⟨kws, h1, r1⟩ := ro
      cases r with
      | @tup ks ys b hb rk =>
        obtain ⟨k, e1, e2⟩ := Option.map_eq_some_iff.mp (show (keysOf ks).map (look kvs) = some g from d)
        have ex := keysOf_ok e1 rk
        subst ex e2
        exact ⟨a, valV kws k, rfl, DGet.t h1 hb, look_ok k r1⟩
      | _ => cases d
    | _ => cases d
end
section
variable {X : Cx} {ca : CaT}
theorem ofB_ok {K : PySem.W.Frag} {ia : List Addr} {H : Hp} {h : LH} {o : Option Bool} {Q : VK} {E : XK} (w : Want K ca ia H (ofB o h) Q E) (R : Rep K ca ia H h) : ∃ b, o = some b ∧ Q (.bl b) H := by
  cases o with
  | none => exact (show False from w).elim
  | some b => exact ⟨b, rfl, w.now R (.bl b)⟩
theorem ov_eq (hu : X.A.units + 64 < cLine) : OpR X (compareOp .Eq) (rV2 X.K ca vEq) := by
  intro pins s st H x y v u Q I rx ry ⟨ia, h, a, b, E, R, ra, rb, w⟩
  obtain ⟨c, e, q⟩ := ofB_ok w R
  unfold eqB at e
  split at e
  · rename_i c' e1
    cases e
    obtain ⟨h1, h2⟩ := scl_ok e1 ra rb
    exact op_eq pins s st H x y v u Q I rx ry ⟨h1, by rw [h2]; exact q⟩
  · split at e
    · rename_i d d' e1 e2
      split at e
      · rename_i hs
        cases e
        obtain ⟨s1, s2⟩ := Bool.and_eq_true_iff.mp hs
        exact op_eqD hu pins s st H x y v u Q I rx ry ⟨d, d', toD_ok R e1 ra, toD_ok R e2 rb, s1, s2, q⟩
      · cases e
    · cases e
theorem ov_ne (hu : X.A.units + 64 < cLine) : OpR X (compareOp .NotEq) (rV2 X.K ca vNe) := by
  intro pins s st H x y v u Q I rx ry ⟨ia, h, a, b, E, R, ra, rb, w⟩
  obtain ⟨c, e0, q⟩ := ofB_ok w R
  obtain ⟨c1, e, ec⟩ := Option.map_eq_some_iff.mp e0
  clear e0
  subst ec
  clear w
  unfold eqB at e
  split at e
  · rename_i c' e1
    cases e
    obtain ⟨h1, h2⟩ := scl_ok e1 ra rb
    exact op_ne pins s st H x y v u Q I rx ry ⟨h1, by rw [h2]; exact q⟩
  · split at e
    · rename_i d d' e1 e2
      split at e
      · rename_i hs
        have e2 := Option.some.inj e
        subst e2
        obtain ⟨s1, s2⟩ := Bool.and_eq_true_iff.mp hs
        exact op_neD hu pins s st H x y v u Q I rx ry ⟨d, d', toD_ok R e1 ra, toD_ok R e2 rb, s1, s2, q⟩
      · cases e
    · cases e
theorem ov_lt : OpR X (compareOp .Lt) (rV2 X.K ca vLt) := by
  intro pins s st H x y v u Q I rx ry ⟨ia, h, a, b, E, R, ra, rb, w⟩
  unfold vLt at w
  split at w
  · cases ra; cases rb
    exact op_lt pins s st H _ _ v u Q I rx ry ⟨_, _, rfl, rfl, w.now R (.bl _)⟩
  · cases ra; cases rb
    exact op_lt_str pins s st H _ _ v u Q I rx ry ⟨_, _, rfl, rfl, w.now R (.bl _)⟩
  · exact (show False from w).elim
theorem ov_le : OpR X (compareOp .LtE) (rV2 X.K ca vLe) := by
  intro pins s st H x y v u Q I rx ry ⟨ia, h, a, b, E, R, ra, rb, w⟩
  unfold vLe at w
  split at w
  · cases ra; cases rb
    exact op_le pins s st H _ _ v u Q I rx ry ⟨_, _, rfl, rfl, w.now R (.bl _)⟩
  · exact (show False from w).elim
theorem ov_gt : OpR X (compareOp .Gt) (rV2 X.K ca vGt) := by
  intro pins s st H x y v u Q I rx ry ⟨ia, h, a, b, E, R, ra, rb, w⟩
  unfold vGt at w
  split at w
  · cases ra; cases rb
    exact op_gt pins s st H _ _ v u Q I rx ry ⟨_, _, rfl, rfl, w.now R (.bl _)⟩
  · exact (show False from w).elim
theorem ov_ge : OpR X (compareOp .GtE) (rV2 X.K ca vGe) := by
  intro pins s st H x y v u Q I rx ry ⟨ia, h, a, b, E, R, ra, rb, w⟩
  unfold vGe at w
  split at w
  · cases ra; cases rb
    exact op_ge pins s st H _ _ v u Q I rx ry ⟨_, _, rfl, rfl, w.now R (.bl _)⟩
  · exact (show False from w).elim
end
end Mi

set_option Elab.async false
set_option linter.all false
set_option maxRecDepth 100000
set_option maxHeartbeats 1000000
/-! D5: is, in, places, slices, lengths, truth, by values. -/
namespace Mi
open PySem L2 PyProof.Rows
section
variable {X : Cx} {ca : CaT}
theorem rv_non {K : PySem.W.Frag} {ia : List Addr} {H : Hp} {v : Val} {x : V} (r : RV K ia H v x) : decide (x = .non) = isNon v := by
  cases r <;> simp [isNon]
theorem ov_is : OpR X (compareOp .Is) (rV2 X.K ca vIs) := by
  intro pins s st H x y v u Q I rx ry ⟨ia, h, a, b, E, R, ra, rb, w⟩
  unfold vIs at w
  split at w
  · cases rb
    refine op_isN pins s st H _ _ v u Q I rx ry ⟨rfl, ?_⟩
    rw [rv_non ra]
    exact (chk_ok w).2.now R (.bl _)
  · split at w
    · cases ra; cases rb
      exact op_isBl pins s st H _ _ v u Q I rx ry ⟨_, _, rfl, rfl, w.now R (.bl _)⟩
    · exact (show False from w).elim
  · exact (show False from w).elim
theorem ov_isn : OpR X (compareOp .IsNot) (rV2 X.K ca vIsn) := by
  intro pins s st H x y v u Q I rx ry ⟨ia, h, a, b, E, R, ra, rb, w⟩
  unfold vIsn at w
  split at w
  · cases rb
    refine op_notN pins s st H _ _ v u Q I rx ry ⟨rfl, ?_⟩
    rw [rv_non ra]
    exact (chk_ok w).2.now R (.bl _)
  · split at w
    · cases ra; cases rb
      exact op_notBl pins s st H _ _ v u Q I rx ry ⟨_, _, rfl, rfl, w.now R (.bl _)⟩
    · exact (show False from w).elim
  · exact (show False from w).elim
/-- in, by what == sees -/
theorem inS_ok (hu : X.A.units + 65 < cLine) {pins : List (Addr × Obj)} {s : Shared} {st : L2.St} {H : Hp} {x y : V} {v u : Value} {Q : VK} {ia : List Addr} {h : LH} {a b : Val} {c : Bool}
    (I : Inv X pins st H s) (rx : RelV x v) (ry : RelV y u) (R : Rep X.K ca ia H h) (ra : RV X.K ia H a x) (rb : RV X.K ia H b y) (e : inS a b h = some c) :
    (Q (.bl c) H → wpAny (model X.prog X.w) X.A (compareOp .In v u) (EP X pins st Q) X.xe s) ∧ (Q (.bl (!c)) H → wpAny (model X.prog X.w) X.A (compareOp .NotIn v u) (EP X pins st Q) X.xe s) := by
  unfold inS at e
  split at e
  · rename_i d e1
    unfold memD at e
    split at e
    · rename_i ds e2
      split at e
      · rename_i hs
        have e3 := Option.some.inj e
        subst e3
        obtain ⟨s1, s2⟩ := Bool.and_eq_true_iff.mp hs
        exact ⟨fun q => op_inD hu pins s st H x y v u Q I rx ry ⟨d, ds, toD_ok R e1 ra, toD_ok R e2 rb, s1, s2, q⟩, fun q => op_notInD hu pins s st H x y v u Q I rx ry ⟨d, ds, toD_ok R e1 ra, toD_ok R e2 rb, s1, s2, q⟩⟩
      · cases e
    · rename_i ds e2
      split at e
      · rename_i hs
        have e3 := Option.some.inj e
        subst e3
        obtain ⟨s1, s2⟩ := Bool.and_eq_true_iff.mp hs
        obtain ⟨as, r1⟩ := Dp.reads I d x v (toD_ok R e1 ra) rx
        obtain ⟨bs, r2⟩ := Dp.reads I (.tuple ds) y u (toD_ok R e2 rb) ry
        exact ⟨fun q => SeqAt.in_tuple_reads r2 r1 (SeqAt.canLay_of_shaped s2) (SeqAt.canLay_of_shaped s1) (room_in_shaped s1 hu) ⟨.bl _, H, I, rfl, q⟩,
          fun q => SeqAt.notIn_tuple_reads r2 r1 (SeqAt.canLay_of_shaped s2) (SeqAt.canLay_of_shaped s1) (room_in_shaped s1 hu) ⟨.bl _, H, I, rfl, q⟩⟩
      · cases e
    · cases e
  · cases e
theorem in_ok (hu : X.A.units + 65 < cLine) {pins : List (Addr × Obj)} {s : Shared} {st : L2.St} {H : Hp} {x y : V} {v u : Value} {Q : VK} {ia : List Addr} {h : LH} {a b : Val} {c : Bool}
    (I : Inv X pins st H s) (rx : RelV x v) (ry : RelV y u) (R : Rep X.K ca ia H h) (ra : RV X.K ia H a x) (rb : RV X.K ia H b y) (e : inB a b h = some c) :
    (Q (.bl c) H → wpAny (model X.prog X.w) X.A (compareOp .In v u) (EP X pins st Q) X.xe s) ∧ (Q (.bl (!c)) H → wpAny (model X.prog X.w) X.A (compareOp .NotIn v u) (EP X pins st Q) X.xe s) := by
  unfold inB at e
  split at e
  · split at e
    · have e3 := Option.some.inj e
      subst e3
      cases ra; cases rb
      exact ⟨fun q => op_in_str pins s st H _ _ v u Q I rx ry ⟨_, _, rfl, rfl, q⟩, fun q => op_notin_str pins s st H _ _ v u Q I rx ry ⟨_, _, rfl, rfl, q⟩⟩
    · cases e
  · split at e
    · exact inS_ok hu I rx ry R ra rb e
    · rename_i o e1 hno
      obtain ⟨g, e2, e3⟩ := Option.map_eq_some_iff.mp e
      subst e3
      obtain ⟨p, g', ey, dg, hg⟩ := dGet_ok R hno e2 rb ra
      subst ey
      cases ry
      have eg : g'.isSome = g.isSome := by
        rcases hg with ⟨h1, h2⟩ | ⟨_, _, h1, h2, _⟩ <;> rw [h1, h2] <;> rfl
      exact ⟨fun q => d_in (by omega) I dg rx fun s' I' => ⟨.bl g'.isSome, H, I', rfl, by rw [eg]; exact q⟩, fun q => d_notIn (by omega) I dg rx fun s' I' => ⟨.bl (!g'.isSome), H, I', rfl, by rw [eg]; exact q⟩⟩
    · cases e
  · exact inS_ok hu I rx ry R ra rb e
theorem ov_in (hu : X.A.units + 65 < cLine) : OpR X (compareOp .In) (rV2 X.K ca vIn) := by
  intro pins s st H x y v u Q I rx ry ⟨ia, h, a, b, E, R, ra, rb, w⟩
  obtain ⟨c, e, q⟩ := ofB_ok w R
  exact (in_ok hu I rx ry R ra rb e).1 q
theorem ov_nin (hu : X.A.units + 65 < cLine) : OpR X (compareOp .NotIn) (rV2 X.K ca vNin) := by
  intro pins s st H x y v u Q I rx ry ⟨ia, h, a, b, E, R, ra, rb, w⟩
  obtain ⟨c, e0, q⟩ := ofB_ok w R
  obtain ⟨c1, e, ec⟩ := Option.map_eq_some_iff.mp e0
  clear e0 w
  subst ec
  exact (in_ok hu I rx ry R ra rb e).2 q
end

/-! ### places -/
def ofO (o : Option Val) (h : LH) : Res Val := match o with | some v => .ok v h | none => .bad
/-- the list, the tuple that a value is -/
def seqL (v : Val) (h : LH) : Option (List Val) := match v with
  | .cl xs => some xs
  | .loc m => (match h[m]? with
    | some (.lst xs) => some xs
    | _ => none)
  | _ => none
def seqT (v : Val) : Option (List Val) := match v with
  | .tup xs => some xs
  | .ct xs => some xs
  | _ => none
section
variable {K : PySem.W.Frag} {ca : CaT} {ia : List Addr} {H : Hp} {h : LH}
theorem seqL_ok (R : Rep K ca ia H h) {v : Val} {x : V} {xs : List Val} (e : seqL v h = some xs) (r : RV K ia H v x) : ∃ a ys, x = .ref a ∧ SqL K H a ys ∧ RVs K ia H xs ys := by
  cases r with
  | cl s q => cases e; exact ⟨_, _, rfl, s.sq, q⟩
  | @loc m a q =>
    have e' : (match h[m]? with
      | some (.lst xs) => some xs
      | _ => none) = some xs := e
    split at e'
    · rename_i em
      cases e'
      obtain ⟨ys, h1, h2⟩ := R.ob m _ _ em q
      exact ⟨_, ys, rfl, SqL.of h1, h2⟩
    · cases e'
  | _ => cases e
theorem seqT_ok {v : Val} {x : V} {xs : List Val} (e : seqT v = some xs) (r : RV K ia H v x) : ∃ a ys, x = .ref a ∧ SqT K H a ys ∧ RVs K ia H xs ys := by
  cases r with
  | tup s q => cases e; exact ⟨_, _, rfl, SqT.of s, q⟩
  | ct s q => cases e; exact ⟨_, _, rfl, s.sq, q⟩
  | _ => cases e
theorem atI_ok {xs : List Val} {ys : List V} {i : Int} {v : Val} (r : RVs K ia H xs ys) (e : atI xs i = some v) : ∃ w, atI ys i = some w ∧ RV K ia H v w := by
  unfold atI at e ⊢
  rw [← r.len]
  cases q : ixN xs.length i with
  | none => rw [q] at e; cases e
  | some j =>
    rw [q] at e
    exact r.get e
theorem ofO_ok {o : Option Val} {Q : VK} {E : XK} (w : Want K ca ia H (ofO o h) Q E) : ∃ v, o = some v ∧ Want K ca ia H (.ok v h) Q E := by
  cases o with
  | none => exact (show False from w).elim
  | some v => exact ⟨v, rfl, w⟩
end
def vIx (v w : Val) (h : LH) : Res Val := match v with
  | .str z => (match w with
    | .int i => chk (decide (z.length ≤ sizeLine)) (ofO ((atI z.cps.toList i).map fun c => .str ⟨#[c]⟩) h)
    | _ => .bad)
  | .loc m => (match h[m]? with
    | some (.lst xs) => (match w with
      | .int i => ofO (atI xs i) h
      | _ => .bad)
    | some o => (match dGet o w with
      | some (some u) => .ok u h
      | _ => .bad)
    | none => .bad)
  | .cl xs => (match w with
    | .int i => ofO (atI xs i) h
    | _ => .bad)
  | .tup xs => (match w with
    | .int i => ofO (atI xs i) h
    | _ => .bad)
  | .ct xs => (match w with
    | .int i => ofO (atI xs i) h
    | _ => .bad)
  | _ => .bad
section
variable {X : Cx} {ca : CaT}
theorem iv_ix (hu : X.A.units + 1 < cLine) : IxR X (rV2 X.K ca vIx) := by
  intro value slice pins s st H x y v u Q I rx ry ⟨ia, h, a, b, E, R, ra, rb, w⟩ hs
  unfold vIx at w
  split at w
  · split at w
    · obtain ⟨c, w⟩ := chk_ok w
      obtain ⟨v', e, w⟩ := ofO_ok w
      obtain ⟨cp, e1, e2⟩ := Option.map_eq_some_iff.mp e
      subst e2
      cases ra; cases rb
      exact ix_str value slice pins s st H _ _ v u Q I rx ry ⟨_, _, cp, rfl, rfl, of_decide_eq_true c, e1, w.now R (.str _)⟩ hs
    · exact (show False from w).elim
  · split at w
    · rename_i m xs em
      split at w
      · obtain ⟨v', e, w⟩ := ofO_ok w
        obtain ⟨p, ys, rfl, _, h1, r1⟩ := R.lst em ra
        obtain ⟨z, e2, rz⟩ := atI_ok r1 e
        cases rb
        exact ix_list value slice pins s st H _ _ v u Q I rx ry ⟨_, _, _, z, rfl, rfl, SqL.of h1, e2, w.now R rz⟩ hs
      · exact (show False from w).elim
    · rename_i o hno em
      split at w
      · rename_i z ez
        obtain ⟨p, g', ey, dg, hg⟩ := dGet_ok R em ez ra rb
        subst ey
        cases rx
        rcases hg with ⟨h1, _⟩ | ⟨u', w', h1, h2, r2⟩
        · cases h1
        · cases h1
          rw [h2] at dg
          exact tail_any (dict_typeIs I dg) PySem.F.slot_dict_getitem.lookup (d_getItem hu I dg ry fun z' s' I' rz' => ⟨w', H, I', rz', w.now R r2⟩) hs
      · exact (show False from w).elim
    · exact (show False from w).elim
  · rename_i xs
    split at w
    · obtain ⟨v', e, w⟩ := ofO_ok w
      obtain ⟨p, ys, rfl, h1, r1⟩ := seqL_ok R (v := .cl xs) rfl ra
      obtain ⟨z, e2, rz⟩ := atI_ok r1 e
      cases rb
      exact ix_list value slice pins s st H _ _ v u Q I rx ry ⟨_, _, _, z, rfl, rfl, h1, e2, w.now R rz⟩ hs
    · exact (show False from w).elim
  · rename_i xs
    split at w
    · obtain ⟨v', e, w⟩ := ofO_ok w
      obtain ⟨p, ys, rfl, h1, r1⟩ := seqT_ok (v := .tup xs) rfl ra
      obtain ⟨z, e2, rz⟩ := atI_ok r1 e
      cases rb
      exact ix_tup value slice pins s st H _ _ v u Q I rx ry ⟨_, _, _, z, rfl, rfl, h1, e2, w.now R rz⟩ hs
    · exact (show False from w).elim
  · rename_i xs
    split at w
    · obtain ⟨v', e, w⟩ := ofO_ok w
      obtain ⟨p, ys, rfl, h1, r1⟩ := seqT_ok (v := .ct xs) rfl ra
      obtain ⟨z, e2, rz⟩ := atI_ok r1 e
      cases rb
      exact ix_tup value slice pins s st H _ _ v u Q I rx ry ⟨_, _, _, z, rfl, rfl, h1, e2, w.now R rz⟩ hs
    · exact (show False from w).elim
  · exact (show False from w).elim
end
/-! ### slices -/
def cut {t : Type} (xs : List t) (lo hi : Option Int) : List t := (xs.drop (HT.sIx xs.length 0 lo)).take (HT.sIx xs.length xs.length hi - HT.sIx xs.length 0 lo)
def vSl (v : Val) (lo hi : Option Int) (h : LH) : Res Val := match v with
  | .str z => chk (decide (z.length ≤ sizeLine)) (.ok (.str (cutS z lo hi)) h)
  | .tup xs => .ok (.tup (cut xs lo hi)) h
  | .cl xs => newL (cut xs lo hi) h
  | .loc m => (match h[m]? with
    | some (.lst xs) => newL (cut xs lo hi) h
    | _ => .bad)
  | _ => .bad
def rVS (K : PySem.W.Frag) (ca : CaT) : V → Option Int → Option Int → Hp → VK → Prop := fun x lo hi H Q => ∃ (ia : List Addr) (h : LH) (v : Val) (E : XK), Rep K ca ia H h ∧ RV K ia H v x ∧ Want K ca ia H (vSl v lo hi h) Q E
theorem cut_ok {K : PySem.W.Frag} {ia : List Addr} {H : Hp} {xs : List Val} {ys : List V} (lo hi : Option Int) (r : RVs K ia H xs ys) : RVs K ia H (cut xs lo hi) (cutV ys lo hi) := by
  unfold cut cutV
  rw [r.len]
  exact (r.drop _).take _
section
variable {X : Cx} {ca : CaT}
theorem sv_sl : SlR X (rVS X.K ca) := by
  intro pins s st H x v vl vu lo hi sl Q I rx hs pl pu ⟨ia, h, a, E, R, ra, w⟩
  unfold vSl at w
  split at w
  · obtain ⟨c, w⟩ := chk_ok w
    cases ra
    exact sl_str pins s st H _ v vl vu lo hi sl Q I rx hs pl pu ⟨_, rfl, of_decide_eq_true c, w.now R (.str _)⟩
  · rename_i xs
    cases ra with
    | @tup _ ys p s1 r1 =>
      refine sl_tupA pins s st H _ v vl vu lo hi sl Q I rx hs pl pu ⟨p, ys, rfl, SqT.of s1, fun ⟨z1, z2⟩ => ?_, fun _ => w.newT R (cut_ok lo hi r1)⟩
      refine w.now R (.tup s1 ?_)
      have e : cut xs lo hi = xs := by
        unfold cut
        rw [r1.len, z1, z2]
        simp [← r1.len]
      rw [e]
      exact r1
  · rename_i xs
    obtain ⟨p, ys, rfl, h1, r1⟩ := seqL_ok R (v := .cl xs) rfl ra
    exact sl_list pins s st H _ v vl vu lo hi sl Q I rx hs pl pu ⟨p, ys, rfl, h1, w.newL R (cut_ok lo hi r1)⟩
  · split at w
    · rename_i xs em
      obtain ⟨p, ys, rfl, _, h1, r1⟩ := R.lst em ra
      exact sl_list pins s st H _ v vl vu lo hi sl Q I rx hs pl pu ⟨p, ys, rfl, SqL.of h1, w.newL R (cut_ok lo hi r1)⟩
    · exact (show False from w).elim
  · exact (show False from w).elim
end
/-! ### lengths, truth -/
def lenO (v : Val) (h : LH) : Option Nat := match v with
  | .str z => if z.length ≤ sizeLine then some z.length else none
  | .tup xs => some xs.length
  | .ct xs => some xs.length
  | .cl xs => some xs.length
  | .loc m => (match h[m]? with
    | some (.lst xs) => some xs.length
    | _ => none)
  | _ => none
theorem lenO_ok {K : PySem.W.Frag} {ca : CaT} {ia : List Addr} {H : Hp} {h : LH} (R : Rep K ca ia H h) {v : Val} {x : V} {n : Nat} (e : lenO v h = some n) (r : RV K ia H v x) : LenV K x H n := by
  cases r with
  | str z =>
    have e' : (if z.length ≤ sizeLine then some z.length else none) = some n := e
    split at e'
    · rename_i hz
      cases e'
      exact ⟨hz, rfl⟩
    · cases e'
  | tup s q => cases e; exact .inr ⟨_, SqT.of s, q.len⟩
  | ct s q => cases e; exact .inr ⟨_, s.sq, q.len⟩
  | cl s q => cases e; exact .inl ⟨_, s.sq, q.len⟩
  | @loc m a q =>
    have e' : (match h[m]? with
      | some (.lst xs) => some xs.length
      | _ => none) = some n := e
    split at e'
    · rename_i em
      cases e'
      obtain ⟨ys, h1, h2⟩ := R.ob m _ _ em q
      exact .inl ⟨_, SqL.of h1, h2.len⟩
    · cases e'
  | _ => cases e
def truO (v : Val) (h : LH) : Option Bool := match v with
  | .non => some false
  | .bl b => some b
  | .int i => some (i != 0)
  | .str z => if z.length ≤ sizeLine then some ((z.length : Int) != 0) else none
  | .tup xs => some (!xs.isEmpty)
  | .ct xs => some (!xs.isEmpty)
  | .cl xs => some (!xs.isEmpty)
  | .loc m => (match h[m]? with
    | some (.lst xs) => some (!xs.isEmpty)
    | some (.dK xs) => some (!xs.isEmpty)
    | _ => none)
  | _ => none
theorem emp_rvs {K : PySem.W.Frag} {ia : List Addr} {H : Hp} {xs : List Val} {ys : List V} (r : RVs K ia H xs ys) : (!xs.isEmpty) = !ys.isEmpty := by cases r <;> rfl
theorem truO_ok {K : PySem.W.Frag} {ca : CaT} {ia : List Addr} {H : Hp} {h : LH} (R : Rep K ca ia H h) {v : Val} {x : V} {b : Bool} (e : truO v h = some b) (r : RV K ia H v x) : TruV K x H b := by
  cases r with
  | non => cases e; rfl
  | bl c => cases e; rfl
  | int i => cases e; rfl
  | str z =>
    have e' : (if z.length ≤ sizeLine then some ((z.length : Int) != 0) else none) = some b := e
    split at e'
    · rename_i hz
      cases e'
      exact ⟨hz, rfl⟩
    · cases e'
  | tup s q => cases e; exact .inr (.inl ⟨_, SqT.of s, emp_rvs q⟩)
  | ct s q => cases e; exact .inr (.inl ⟨_, s.sq, emp_rvs q⟩)
  | cl s q => cases e; exact .inl ⟨_, s.sq, emp_rvs q⟩
  | @loc m a q =>
    have e' : (match h[m]? with
      | some (.lst xs) => some (!xs.isEmpty)
      | some (.dK xs) => some (!xs.isEmpty)
      | _ => none) = some b := e
    split at e'
    · rename_i em
      cases e'
      obtain ⟨ys, h1, h2⟩ := R.ob m _ _ em q
      exact .inl ⟨_, SqL.of h1, emp_rvs h2⟩
    · rename_i em
      cases e'
      obtain ⟨ys, h1, h2⟩ := R.ob m _ _ em q
      exact .inr (.inr ⟨_, h1, by cases h2 <;> rfl⟩)
    · cases e'
  | err _ _ _ => cases e
end Mi

set_option Elab.async false
set_option linter.all false
set_option maxRecDepth 100000
set_option maxHeartbeats 1000000
/-! P1: what repr, isinstance, .value and dict displays give. -/
namespace Mi
open PySem L2
def keyD : Key → PyData
  | .inl i => .int i
  | .inr x => .str x
def mapKv (f : Val → Option PyData) : List (Key × Val) → Option (List (PyData × PyData))
  | [] => some []
  | (k, x) :: xs => match f x, mapKv f xs with
    | some d, some ds => some ((keyD k, d) :: ds)
    | _, _ => none
/-- what repr shows of a value -/
def toR : Nat → LH → Val → Option PyData
  | 0, _, _ => none
  | n + 1, h, v => match v with
    | .non => some .none
    | .bl b => some (.bool b)
    | .int i => some (.int i)
    | .str x => some (.str x)
    | .tup xs => (mapO (toR n h) xs).map .tuple
    | .loc m => (match h[m]? with
      | some (.lst xs) => (mapO (toR n h) xs).map .list
      | some (.dK kvs) => (mapKv (toR n h) kvs).map .dict
      | _ => none)
    | _ => none
@[irreducible] def vRep (v : Val) (h : LH) : Res Val := match toR 40 h v with
  | some d => chk (PyData.showable d && decide (d.shown.length ≤ sizeLine) && decide (d.depth ≤ 100)) (.ok (.str d.shown) h)
  | none => .bad
def vFld (errs : List Str) (v : Val) (h : LH) : Res Val := match v with
  | .err c w => chk (errs.contains c) (.ok w h)
  | _ => .bad
inductive ClR where
  | ty (n : String)
  | own (c : Str)
  deriving DecidableEq
/-- the kind of a value -/
def tyO (v : Val) (h : LH) : Option ClR := match v with
  | .non => some (.ty "NoneType")
  | .bl _ => some (.ty "bool")
  | .int _ => some (.ty "int")
  | .str _ => some (.ty "str")
  | .tup _ => some (.ty "tuple")
  | .ct _ => some (.ty "tuple")
  | .loc m => (match h[m]? with
    | some (.lst _) => some (.ty "list")
    | some (.dK _) => some (.ty "dict")
    | some (.dT _) => some (.ty "dict")
    | some (.slt c _) => some (.own c)
    | _ => none)
  | .err c _ => some (.own c)
  | _ => none
def isiL (T : List (ClR × List (ClR × Bool))) (t c : ClR) : Option Bool := match T.find? fun p => decide (p.1 = t) with
  | some p => (p.2.find? fun q => decide (q.1 = c)).map (·.2)
  | none => none
def vIsi (T : List (ClR × List (ClR × Bool))) (errs : List Str) (sls : Str → Bool) (c : ClR) (v : Val) (h : LH) : Res Val := match tyO v h with
  | some t => (match isiL T t c, (match t with | .own x => (match v with | .loc _ => sls x | _ => errs.contains x) | _ => true) with
    | some b, true => .ok (.bl b) h
    | _, _ => .bad)
  | none => .bad
/-- told(lambda: e) -/
def vTold (errs : List Str) (r : Res Val) : Res Val := match r with
  | .ok v h => .ok (.tup [.non, v]) h
  | .exc c v h => chk (errs.contains c) (.ok (.tup [.err c v, .non]) h)
  | .bad => .bad
def putAll (kvs : List (Key × Val)) (ks : List Str) (vs : List Val) : List (Key × Val) := match ks, vs with
  | k :: ks, v :: vs => putAll (put kvs (.inr k) v) ks vs
  | _, _ => kvs
/-- {'k': e, ..} -/
def vDsp (ks : List Str) (ml : M (List Val)) : M Val := fun sl h => (ml sl (h ++ [.dK []])).bind fun vs h1 => match h1[h.length]? with
  | some (.dK []) => chk (decide (ks.length = vs.length) && decide (ks.length ≤ 15)) (.ok (.loc h.length) (h1.set h.length (.dK (putAll [] ks vs))))
  | _ => .bad
mutual
/-- nothing that changes -/
def noLoc : Val → Bool
  | .loc _ => false
  | .opq => false
  | .tup xs => noLocs xs
  | .ct xs => noLocs xs
  | .cl xs => noLocs xs
  | .err _ v => noLoc v
  | _ => true
def noLocs : List Val → Bool
  | [] => true
  | v :: vs => noLoc v && noLocs vs
end
end Mi

set_option Elab.async false
set_option linter.all false
set_option maxRecDepth 100000
set_option maxHeartbeats 2000000
/-! DA: further rules of the layer: tuple of a dict's keys. -/
namespace Mi
open PySem PySem.Spec PyProof.Rows L2
section
variable {pr : Program} {wo : World} {B : Around} {Ex : Value → Shared → Prop} {s0 : Shared} {T : String} {r d : Addr} {n : Nat} {P : Nat → Value → Prop} {OK : Heap → Prop}
/-- what is left of the run that gathers -/
def Gath (s0 : Shared) (n : Nat) (P : Nat → Value → Prop) (rr : Result) (s1 : Shared) : Prop := rr = .ok (.ret (.ref s0.heap.objs.size)) ∧ ∃ (g : Heap) (k : Nat) (xs : Array Value) (c : Nat), s1 = { s0 with heap := g, toks := k } ∧
  (∀ b o, s0.heap.get? b = some o → g.get? b = some o) ∧ g.get? s0.heap.objs.size = some { cls := .type "list", dict := none, data := .seq xs c, slots := #[] } ∧ ItemsOf P xs n
theorem gather (S : PySem.W.KdlSrc pr wo T r d n P OK) (hB : B.handled = none) (ok : OK s0.heap) (hn : n ≤ sizeLine) {Q : List Value → Shared → Prop}
    (hQ : ∀ (g : Heap) (k : Nat) (xs : Array Value), (∀ b o, s0.heap.get? b = some o → g.get? b = some o) → ItemsOf P xs n → Q xs.toList { s0 with heap := g, toks := k }) : wpAny (model pr wo) B (collect (.ref r)) Q Ex s0 := by
  have push : ∀ {b : Addr} {o : Obj}, s0.heap.get? b = some o → (s0.heap.push { cls := .type "list", data := .seq ([] : List Value).toArray }).get? b = some o := fun e => Heap.get?_push_of_some _ e
  have mine : (s0.heap.push { cls := .type "list", data := .seq ([] : List Value).toArray }).get? s0.heap.objs.size = some { cls := .type "list", data := .seq #[] 0 } := Heap.get?_push_size _ rfl
  have th := S.there _ ok
  unfold collect
  refine wpAny_bind (wpAny_runValue (codeAny_builtin F.entry_proto_collect ?_))
  rw [Around.under_plainId F.plain_proto_collect _]
  show wpAny _ B.in1 (newList [] >>= fun y => again (.builtin "list.__iadd__" ⟨[y, .ref r], []⟩)) _ _ s0
  refine wpAny_bind (wpAny_newObj_type (wpAny_pure ⟨plainId_quiet F.plain_list_iadd _, codeAny_builtin F.entry_list_iadd ?_⟩))
  rw [Around.under_plainId F.plain_list_iadd _]
  show wpAny _ B.in1 (Builtin.List.listExtendWith (.ref s0.heap.objs.size) (.ref r) (.ref s0.heap.objs.size)) _ _ _
  have go := PySem.W.kdl_extend (A := B) (R := Gath s0 n P) (s := { s0 with heap := s0.heap.push { cls := .type "list", data := .seq ([] : List Value).toArray } }) S hB (S.keep _ _ ok fun b _ o e => push e) s0.heap.objs.size (Nat.ne_of_gt th.1) (Nat.ne_of_gt th.2) (.ref s0.heap.objs.size) 0 mine
    (fun g k xs c hk hm hi => ⟨rfl, g, k, xs, c, rfl, fun b o e => hk b o (Nat.ne_of_lt (Heap.lt_size e)) (push e), hm, hi⟩) hn
  refine wpAny_mono go (fun f s1 z => ?_) fun e s1 z => absurd z.1 (by simp)
  cases f with
  | done f =>
    obtain ⟨e, g, k, xs, c, rfl, hk, hm, hi⟩ := z
    cases e
    show wpAny _ B (load s0.heap.objs.size >>= _) _ _ _
    exact wpAny_bind (wpAny_load hm (wpAny_pure (hQ g k xs hk hi)))
  | again c' =>
    refine ⟨z.1, codeAny_mono z.2 fun rr s2 y => ?_⟩
    obtain ⟨rfl, g, k, xs, c, rfl, hk, hm, hi⟩ := y
    show wpAny _ B (load s0.heap.objs.size >>= _) _ _ _
    exact wpAny_bind (wpAny_load hm (wpAny_pure (hQ g k xs hk hi)))
theorem tup_new (S : PySem.W.KdlSrc pr wo "dict" r d n P OK) (hB : B.handled = none) (ok : OK s0.heap) (hn : n ≤ sizeLine) {Q : Value → Shared → Prop}
    (hQ : ∀ (g : Heap) (k : Nat) (xs : Array Value), (∀ b o, s0.heap.get? b = some o → g.get? b = some o) → ItemsOf P xs n → Q (.ref g.objs.size) { s0 with heap := g.push { cls := .type "tuple", data := .seq xs }, toks := k }) :
    codeAny (model pr wo) B (.call (.builtin "tuple.__new__") ⟨[.type "tuple", .ref r], []⟩) (wants Q Ex) s0 := by
  refine codeAny_of_tree ?_
  show wpAny _ B.in1 (do checkBuiltinCall "tuple.__new__" ⟨[.type "tuple", .ref r], []⟩; again (.builtin "tuple.__new__" ⟨[.type "tuple", .ref r], []⟩)) _ _ s0
  refine wpAny_bind (wpAny_of_eq (F.newCall_tuple_1 _) (wpAny_pure ⟨plainId_quiet F.plain_tuple_new _, codeAny_builtin F.entry_tuple_new ?_⟩))
  rw [Around.under_plainId F.plain_tuple_new _]
  have q1 := sub_tuple_self
  have q2 := init_tuple_lookup
  have q3 := madeHere_tuple
  have ty := S.type _ ok
  have hB1 : B.in1.handled = none := hB
  wp_walk using wpAny_typeOf ty, gather (B := B.in1) S hB1 ok hn
  intro g k xs hk hi
  show wpAny _ _ (Builtin.Tuple.tupleExact xs.toList.toArray >>= fun y => ret y) _ _ _
  unfold Builtin.Tuple.tupleExact
  have e : xs.toList.toArray = xs := by simp
  rw [e]
  exact wpAny_bind (wpAny_newObj_type (wpAny_pure (hQ g k xs hk hi)) (by show xs.size ≤ sizeLine; rw [hi.1]; exact hn))
end
section
variable {X : Cx}
theorem call_tup_dK (hc : X.calm = true) : CallR X (.type "tuple") (fun xs H Q => ∃ p kvs, xs = [.ref p] ∧ H p = some (.dK kvs) ∧ ∀ q, H q = none → Q (.ref q) (upd H q (.tup (kvs.map fun kv => kV kv.1)))) := by
  intro pins s σ H xs us Q I rx ⟨p, kvs, ex, hk, q⟩
  subst ex
  obtain ⟨u, eu, ru⟩ := vals1 rx
  subst eu
  obtain rfl : u = Value.ref p := ru
  obtain ⟨z, lo, vs, rk, hd⟩ := (show ObjOk X.prog X.w H s.heap p (.dK kvs) from I.hok p _ hk)
  obtain ⟨ep, hat⟩ := hd.dictAt
  have hl : kvs.length = vs.length := Paired.length rk
  have src := PySem.W.kdl_dict (knd := mixKind X.prog X.w) (kvs := vs) (ep := ep) lo
  refine callType_codes (Q₁ := fun o s1 => s1.TypeIs o "tuple" ∧ EP X pins σ Q o s1) F.called_tuple (F.typeCall_tuple_1 _) F.entry_object_init
    (tup_new (B := X.A.in1) src (I.ok.hd hc) hat (by rw [← hl]; exact z) fun g k ys keep hi => ⟨⟨_, Heap.get?_push_size _ rfl, rfl⟩, ?_⟩) fun o s1 h1 => ⟨h1.1, F.args_object_init_2 o _, object_init_meets F.called_tuple.init.lookup F.called_tuple.made (by decide) X.prog X.w X.A.in1 _ s1 ⟨h1.1, rfl, h1.2⟩⟩
  have I1 : Inv X pins σ H { s with heap := g, toks := k } := I.kept keep
  have el : ys.toList.length = ys.size := by simp
  have vv : Vals (kvs.map fun kv => kV kv.1) ys.toList := by
    refine vals_of_at (by rw [List.length_map, el, hi.1, hl]) fun j x w e1 e2 => ?_
    obtain ⟨key, y, ky, isk⟩ := hi.2 j w (by rw [← Array.getElem?_toList]; exact e2)
    have a1 : (kvs.map (·.1))[j]? = some key := by rw [KV.keys rk, List.getElem?_map, ky]; rfl
    have a2 : (kvs.map fun kv => kV kv.1) = (kvs.map (·.1)).map kV := by rw [List.map_map]; rfl
    rw [a2, List.getElem?_map, a1] at e1
    cases e1
    exact keyIs_rel isk
  refine ⟨.ref g.objs.size, upd H g.objs.size (.tup (kvs.map fun kv => kV kv.1)), I1.laid (fun b o e => Heap.get?_push_of_some _ e) (Nat.le_refl _) (show ObjOk X.prog X.w _ _ _ (.tup (kvs.map fun kv => kV kv.1)) from ⟨by rw [List.length_map]; exact z, ys.toList, vv, ?_⟩), rfl, q _ (I1.hok.fresh (Nat.le_refl _))⟩
  rw [Array.toArray_toList]
  exact IsTup.new _ _
end
end Mi

set_option Elab.async false
set_option linter.all false
set_option maxRecDepth 100000
set_option maxHeartbeats 3200000
/-! DB: sets of texts, made of a list: how many. -/
namespace Mi
open PySem PySem.Spec PyProof.Rows L2
/-- each text once -/
def once (xs : List Str) : List Str := xs.foldl step_dedup []
theorem once_snoc (xs : List Str) (x : Str) : once (xs ++ [x]) = step_dedup (once xs) x := by unfold once; rw [List.foldl_append]; rfl
theorem once_len (xs : List Str) : (once xs).length ≤ xs.length := foldl_step_dedup_nil_length_le xs
theorem dd_any (l : List Str) (v k : Str) : (step_dedup l v).any (· == k) = (l.any (· == k) || decide (k = v)) := by
  unfold step_dedup
  split
  · rename_i h
    by_cases e : k = v
    · subst e
      rw [h]
      rfl
    · simp [e]
  · by_cases e : k = v
    · subst e
      simp
    · have : (v == k) = false := by simpa using fun z : v = k => e z.symm
      simp [this, e]
theorem dd_len (l : List Str) (v : Str) : (step_dedup l v).length = if l.any (· == v) then l.length else l.length + 1 := by
  unfold step_dedup
  split <;> simp
section
variable {pr : Program} {wo : World} {B : Around} {Rr : Result → Shared → Prop} {It : Addr} {fp wr : List Addr} {Gg : Array GenState → Array GenState → Prop} {n : Nat} {P : Nat → Value → Prop} {St : Nat → Shared → Prop}
theorem set_loop (W : WalksS pr wo B.in1 It fp wr Gg n P St) (S : Addr) (hS : S ∉ fp) (xs : List Str) (hx : xs.length = n) (hv : ∀ i v, P i v → ∃ t, v = .str (xs.getD i Str.empty) t) (hn : n + 1 < scanBound) :
    ∀ (k i : Nat) (s0 : Shared), n - i = k → i ≤ n → St i s0 → s0.heap.SetOf (PySem.strKind pr wo) S (fun z => (once (xs.take i)).any (· == z)) (once (xs.take i)).length →
      (∀ s1, Moved (S :: wr) Gg s0 s1 → s1.heap.SetOf (PySem.strKind pr wo) S (fun z => (once xs).any (· == z)) (once xs).length → Rr (.ok (.ret .none)) s1) →
      codeAny (model pr wo) B (.builtin "set.update.loop" ⟨[.ref S, .ref It], []⟩) Rr s0 := by
  have nw : S ∉ wr := fun z => hS (W.sub _ z)
  have sb : ∀ b ∈ wr, b ∈ S :: wr := fun b hb => List.mem_cons_of_mem _ hb
  intro k
  induction k with
  | zero =>
    intro i s0 hk hi st hs hR
    obtain rfl : i = n := by omega
    refine codeAny_builtin PyProof.Rows.F.entry_set_update_loop ?_
    rw [Around.under_plainId PyProof.Rows.F.plain_set_update_loop _]
    show wpAny _ B.in1 (pyNext (.ref It) >>= _) _ _ s0
    refine wpAny_bind (W.done s0 _ _ st fun s1 mv => ?_)
    show wpAny _ B.in1 (ret Value.none) _ _ s1
    refine wpAny_pure (hR s1 (mv.mono sb) ?_)
    rw [← hx, List.take_length] at hs
    obtain ⟨o, es, ep, t, ho, more⟩ := hs
    exact ⟨o, es, ep, t, mv.heap S _ nw ho, more⟩
  | succ k ih =>
    intro i s0 hk hi st hs hR
    have lt : i < n := by omega
    refine codeAny_builtin PyProof.Rows.F.entry_set_update_loop ?_
    rw [Around.under_plainId PyProof.Rows.F.plain_set_update_loop _]
    show wpAny _ B.in1 (pyNext (.ref It) >>= _) _ _ s0
    refine wpAny_bind (W.item i s0 _ _ lt st fun v s1 hP st1 mv => ?_)
    obtain ⟨t, rfl⟩ := hv i v hP
    have hs1 : s1.heap.SetOf (PySem.strKind pr wo) S (fun z => (once (xs.take i)).any (· == z)) (once (xs.take i)).length := by
      obtain ⟨o, es, ep, tb, ho, more⟩ := hs
      exact ⟨o, es, ep, tb, mv.heap S _ nw ho, more⟩
    show wpAny _ B.in1 (holding [Value.str (xs.getD i Str.empty) t] (setAdd S (.str (xs.getD i Str.empty) t)) >>= _) _ _ s1
    refine wpAny_bind (wpAny_holding ?_)
    unfold setAdd
    refine wpAny_holding (wpAny_bind ((PySem.strKind pr wo).pyHash (k := xs.getD i Str.empty) (strKind_is _ _ _ _) ?_))
    have room : (once (xs.take i)).length + 1 < scanBound := by
      have := once_len (xs.take i)
      rw [List.length_take] at this
      omega
    refine wpAny_setAddHashed_of (knd := PySem.strKind pr wo) (s := { s1 with toks := s1.toks + 1 }) (strKind_is _ _ _ _) rfl hs1 room fun g sm hs2 => ?_
    have tk : xs.take (i + 1) = xs.take i ++ [xs.getD i Str.empty] := by
      have hl : i < xs.length := by omega
      rw [List.take_succ_eq_append_getElem hl]
      simp [List.getD, hl]
    have hs3 : g.SetOf (PySem.strKind pr wo) S (fun z => (once (xs.take (i + 1))).any (· == z)) (once (xs.take (i + 1))).length :=
      SetOf_congr hs2 (fun z => by rw [tk, once_snoc, dd_any]) (by rw [tk, once_snoc, dd_len])
    refine wpAny_pure ⟨plainId_quiet PyProof.Rows.F.plain_set_update_loop _, ih (i + 1) _ (by omega) lt (W.frame _ s1 _ _ st1 (Nat.le_succ _) fun b hb o e => ?_) hs3 fun s2 mv2 hs4 => ?_⟩
    · rw [sm.2 b fun z : b = S => hS (by rw [← z]; exact hb)]
      exact e
    · refine hR s2 (Moved.trans W.gtrans ((mv.mono sb).then_heap (Nat.le_succ _) fun b o hb e => ?_) mv2) hs4
      rw [sm.2 b fun z : b = S => hb (by rw [z]; exact List.mem_cons_self)]
      exact e
end
section
variable {pr : Program} {wo : World} {B : Around} {Ex : Value → Shared → Prop} {s0 : Shared}
/-- the new set's object -/
def sOb (b : Bool) : Obj := { cls := .type "set", dict := none, data := .set #[] 0 (.fresh 0 0 b) }
theorem set_of_list {l : Addr} {its : Array Value} {xs : List Str} {Q : Value → Shared → Prop} (hB : B.handled = none) (hl : s0.heap.IsList l its) (hi : PyProof.Rows.StrsAre its.toList xs) (hb : its.size + 1 < scanBound)
    (hQ : ∀ (g : Heap) (k : Nat), g.SetOf (PySem.strKind pr wo) s0.heap.objs.size (fun z => (once xs).any (· == z)) (once xs).length → (∀ b o, b < s0.heap.objs.size → s0.heap.get? b = some o → g.get? b = some o) → Q (.ref s0.heap.objs.size) { s0 with heap := g, toks := k }) :
    wpAny (model pr wo) B (call (.type "set") [.ref l]) Q Ex s0 := by
  have hlen : xs.length = its.size := by
    have := hi.length
    simp at this
    omega
  obtain ⟨c1, c2, q0⟩ := PySem.F.called_set.mro
  have q1 := PySem.F.called_set.made
  have q2 := PySem.F.called_set.sub
  refine wpAny_call (codeAny_of_tree ?_)
  show wpAny _ _ (callAny (.type "set") _) _ _ _
  refine wpAny_pure ⟨Code.quiet_builtin _ (by decide +kernel), codeAny_builtin PySem.F.entry_type_call ?_⟩
  rw [Around.under_plain (weight_type_call_type "set" [.ref l] []) rfl]
  have q3 := PySem.F.called_set.notType
  have q4 := PySem.F.called_set.canCreate
  have q5 := PySem.F.typeCall_set_1 (.ref l)
  repeat (any_goals (first | assumption | wp_step))
  refine codeAny_mono (code_set_new_1 (.ref l) (E := Ex) (Q₁ := fun obj s1 => ∃ b : Bool, obj = .ref s0.heap.objs.size ∧ s1 = { s0 with heap := s0.heap.push (sOb b) }) fun b => ⟨b, rfl, rfl⟩) fun r s1 hr => ?_
  cases r with
  | error e => exact hr
  | ok fl =>
    cases fl with
    | ret obj =>
      obtain ⟨bb, rfl, rfl⟩ := hr
      have mine : (s0.heap.push (sOb bb)).get? s0.heap.objs.size = some (sOb bb) := Heap.get?_push_size _ rfl
      have ty : Shared.TypeIs { s0 with heap := s0.heap.push (sOb bb) } (.ref s0.heap.objs.size) "set" := ⟨_, mine, rfl⟩
      have q6 := PySem.F.called_set.init.lookup
      have q7 := PySem.F.called_set.init.bind (.ref s0.heap.objs.size)
      repeat (any_goals (first | assumption | wp_step))
      refine codeAny_mono (codeAny_call_builtin (R := wants (fun r s2 => r = .none ∧ ∃ g k, s2 = { s0 with heap := g, toks := k } ∧ g.SetOf (PySem.strKind pr wo) s0.heap.objs.size (fun z => (once xs).any (· == z)) (once xs).length ∧
        (∀ b o, b < s0.heap.objs.size → s0.heap.get? b = some o → g.get? b = some o)) Ex) PySem.F.called_set.init.plain PySem.F.entry_set_init (check_set_init_1 ty ?_)) fun r2 s2 hr2 => ?_
      · obtain ⟨ol, hol, hcl, nl, hdl⟩ := hl
        obtain ⟨ocls, odict, odata, oslots⟩ := ol
        simp only at hcl hdl
        subst hcl
        subst hdl
        have hol' : (s0.heap.push (sOb bb)).get? l = some { cls := .type "list", dict := odict, data := .seq its nl, slots := oslots } := Heap.get?_push_of_some _ hol
        have q8 := PySem.F.sub_list_set
        have q9 := PySem.F.sub_list_frozenset
        have q10 : (Value.type "list" == Value.type "dict") = false := by decide
        have hl1 : (s0.heap.push (sOb bb)).IsList l its := ⟨_, hol', rfl, nl, rfl⟩
        have lS : l < s0.heap.objs.size := Heap.lt_size hol
        have eS : (s0.heap.push (sOb bb)).objs.size = s0.heap.objs.size + 1 := Heap.size_push _ _
        unfold Builtin.«set.__init__» noKeywords Builtin.Frozenset.updateFrom
        generalize hPI : pyIter = PI
        wp_walk
        subst hPI
        refine wpAny_pyIter_list hl1 (wpAny_bind (wpAny_runValue ?_))
        have hB3 : B.in1.in1.in1.handled = none := by simp [hB]
        have n1 : l ≠ (s0.heap.push (sOb bb)).objs.size := by rw [eS]; exact Nat.ne_of_lt (Nat.lt_succ_of_lt lS)
        have n2 : s0.heap.objs.size ∉ [(s0.heap.push (sOb bb)).objs.size, l] := by
          simp only [List.mem_cons, List.not_mem_nil, or_false, not_or]
          rw [eS]
          exact ⟨Nat.ne_of_lt (Nat.lt_succ_self _), Nat.ne_of_gt lS⟩
        refine set_loop ((Walks.list hB3 _ l n1 its).toS) s0.heap.objs.size n2 xs hlen (fun i v hv => SS.strs_at hi i v (by rw [Array.getElem?_toList]; exact hv)) hb (its.size - 0) 0 _ (by omega) (Nat.zero_le _)
          ⟨⟨_, Heap.get?_push_size _ rfl, rfl, rfl⟩, hl1.push _⟩ ?ini ?fin
        case ini =>
          have at1 : ((s0.heap.push (sOb bb)).push { cls := .type "list_iterator", data := .fields #[.ref l, .int 0 0] }).get? s0.heap.objs.size = some (sOb bb) := Heap.get?_push_of_some _ mine
          exact SetOf_congr ((setObjOf_fresh (knd := PySem.strKind pr wo) bb).setOf at1 (by unfold scanBound; omega)) (fun _ => rfl) rfl
        case fin =>
          intro s3 mv hs3
          obtain ⟨g, ge, dr, tk, os⟩ := s3
          have e1 : ge = s0.gens := mv.gens
          have e2 : dr = s0.drawn := mv.drawn
          have e3 : os = s0.os := mv.os
          subst e1
          subst e2
          subst e3
          show wpAny _ _ _ _ _ _
          refine wpAny_pure ?_
          show wpAny _ _ (ret Value.none) _ _ _
          refine wpAny_pure ⟨rfl, g, tk, rfl, hs3, fun b o hb' e => mv.heap b o ?_ (Heap.get?_push_of_some _ (Heap.get?_push_of_some _ e))⟩
          simp only [List.mem_cons, List.not_mem_nil, or_false, not_or]
          rw [eS]
          exact ⟨Nat.ne_of_lt hb', Nat.ne_of_lt (Nat.lt_succ_of_lt hb')⟩
      · cases r2 with
        | error e => exact hr2
        | ok fl2 =>
          cases fl2 with
          | ret r =>
            obtain ⟨rfl, g, k, rfl, hs3, keep⟩ := hr2
            repeat (any_goals (first | assumption | wp_step))
            exact hQ _ _ hs3 keep
          | _ => exact hr2.elim
    | _ => exact hr.elim
end
section
variable {X : Cx}
/-- len(set(a)), a a list of texts -/
def tLst (K : PySem.W.Frag) (ta : TE) : TE := fun σ H Q => ta σ H fun x H1 => ∃ l, ∃ xs : List Str, x = .ref l ∧ SqL K H1 l (xs.map V.str) ∧ xs.length + 1 < scanBound ∧ Q (.int (once xs).length) H1
theorem pe_lst_set {a : Expr} {ta : TE} {p p2 q pos : Pos} (hc : X.calm = true) (hg : Gl X "len") (hm : X.mg "len" = none) (hg2 : Gl X "set") (hm2 : X.mg "set" = none) (ha : PE X a ta)
    (na : starEach [a] X.env = (false, eval a X.env) :: starEach [] X.env) : PE X (.Call (.Name "len" p) [.Call (.Name "set" p2) [a] [] q] [] pos) (tLst X.K ta) := by
  refine ⟨fun pins s σ H Q I h => ?_⟩
  refine Call_ (ld_blt I hg hm boot_len (PyProof.Rows.callWith_builtin1 (PyProof.Rows.args_cons (Call_ (ld_blt I hg2 hm2 boot_set ?_)) rfl) rfl rfl))
  refine PyProof.Rows.callWith_type1 (PyProof.Rows.args_cons (thn (ha.run pins s σ H _ I h) fun v s1 ⟨x, H1, I1, r1, q1⟩ => PyProof.Rows.args_nil ?_) na) na rfl
  obtain ⟨l, xs, rfl, hq, hn, q1⟩ := q1
  cases r1
  obtain ⟨its, rv, pl, hz⟩ := I1.list hq
  have sz : its.toArray.size = xs.length := by rw [List.size_toArray, ← rv.length, List.length_map]
  refine set_of_list (I1.ok.hd hc) pl.isList (xs := xs) (by simpa using strsAre_of rv) (by omega) fun g k hS keep => PyProof.Rows.args_nil ?_
  obtain ⟨o, es, ep, t, ho, hex, hd, _, _, _, hf, hnn⟩ := hS
  have I2 : Inv X pins σ H1 { s1 with heap := g, toks := k } := I1.kept fun b o e => keep b o (Heap.lt_size e) e
  have := once_len xs
  exact call_len_set ho hex hd hf (by rw [hnn]; unfold scanBound at hn; omega) ⟨.int (once xs).length, H1, I2.tok _, ⟨_, by rw [hnn]⟩, q1⟩
end
end Mi

set_option Elab.async false
set_option linter.all false
set_option maxRecDepth 100000
set_option maxHeartbeats 1000000
/-! D6: the evaluator's own text, and its run. -/
namespace Mi
open PySem L2
/-- built-in functions and classes that are called -/
inductive Bi where
  | len | abs | int | min2 | max2 | all | any | list | tuple | str | dict
  deriving DecidableEq
/-- methods of built-in classes -/
inductive Mt where
  | append | extend | popAt | split | startsw | rmpre | join | get2
  deriving DecidableEq
/-- further operations on values -/
inductive Op where
  | lset
  deriving DecidableEq
inductive ITg where
  | nm (i : Nat)
  | tp (ts : List ITg)
inductive IE where
  | cst (v : Val)
  | var (i : Nat)
  | bin (op : Operator) (a b : IE)
  | neg (a : IE)
  | cmp (op : CmpOp) (a b : IE)
  | chn (op op' : CmpOp) (a b c : IE)
  | nt (a : IE)
  | an (es : List IE)
  | orr (es : List IE)
  | ife (c a b : IE)
  | tp (es : List IE)
  | ls (es : List IE)
  | cal (f : Nat) (es : List IE)
  | blt (b : Bi) (es : List IE)
  | lrg (a : IE)
  | mth (m : Mt) (o : IE) (es : List IE)
  | ix (a b : IE)
  | sl (a : IE) (lo hi : Option IE)
  | mkE (c : Str) (e : IE)
  | fld (e : IE)
  | isi (e : IE) (c : ClR)
  | rpr (e : IE)
  | dsp (ks : List Str) (es : List IE)
  | lc (tg : ITg) (k : Nat) (es : List IE) (ifs : List IE) (elt : IE) (own : List Nat)
  /-- an attribute of an instance, a new instance, a method of an instance; what is never reached -/
  | att (e : IE) (f : Str)
  | mk (c : Str) (es : List IE)
  | mcl (o : IE) (m : Str) (es : List IE)
  | nvr
  /-- told(lambda: e) -/
  | tld (e : IE)
  /-- {e} in an f-string; an f-string of two parts or more -/
  | fmt (e : IE)
  | js (es : List IE)
  /-- an operation on values; a display with stars (l: a list) -/
  | opn (o : Op) (es : List IE)
  | spl (l : Bool) (bs : List Bool) (es : List IE)
inductive IS where
  | ex (e : IE)
  | asg (tg : ITg) (e : IE)
  | sub (o i e : IE)
  | ret (e : Option IE)
  | iff (c : IE) (a b : List IS)
  | for_ (tg : ITg) (k : Nat) (es : List IE) (body : List IS)
  | whl (c : IE) (body : List IS)
  | brk | cnt | pas | nev
  | sta (o : IE) (f : Str) (e : IE)
  | rse (c : Str) (e : IE)
/-- what a loop walks (k: 0 a sequence, 1 range(n), 2 range(a, b), 3 enumerate, 4 zip of two) -/
inductive Src where
  | seq (v : Val)
  | rng (lo : Int) (n : Nat)
  | enm (v : Val)
  | zp (v w : Val)
  | chr (x : Str)
  | zt (v w : Val)
/-- what a block gives -/
inductive RsS where
  | nx (sl : LS) (h : LH)
  | rt (v : Val) (h : LH)
  | bk (sl : LS) (h : LH)
  | ct (sl : LS) (h : LH)
  | exc (c : Str) (v : Val) (sl : LS) (h : LH)
  | bad
structure DefI where
  ps : Nat
  n : Nat
  body : List IS
  dfl : List Val := []
/-- an own class: its slots in the order of their places, properties, methods, __init__ -/
structure ClsI where
  slots : List Str
  props : List (Str × Nat) := []
  meths : List (Str × Nat) := []
  init : Nat
  /-- the instances have a dict (slots: its fields' names) -/
  dict : Bool := false
/-- the fields' names of a class whose instances have a dict -/
def dnI (I : ClsI) : Option (List Str) := if I.dict then some I.slots else none
def dnOf (cs : List (Str × ClsI)) (c : Str) : Option (List Str) := (cs.lookup c).bind dnI
structure Prg where
  defs : List DefI
  cls : List (Str × ClsI) := []
  isiT : List (ClR × List (ClR × Bool)) := []
  errs : List Str := []
/-- a class with slots -/
def Prg.isC (G : Prg) (x : Str) : Bool := (G.cls.lookup x).isSome
/-- the evaluator, one level -/
structure EV where
  e : Nat → IE → LS → LH → Res Val
  t : Nat → IE → LS → LH → Res Bool
  s : Nat → List IS → LS → LH → RsS
  f : Nat → ITg → List IS → Src → Nat → LS → LH → RsS
  w : Nat → IE → List IS → LS → LH → RsS
  l : Nat → ITg → List IE → IE → List Nat → Src → Nat → Nat → LS → LH → Res Val
  c : Nat → Nat → List Val → LH → Res Val

def vBin (op : Operator) (v w : Val) (h : LH) : Res Val := match op with
  | .Add => vAdd v w h
  | .Sub => vSub v w h
  | .Mult => vMul v w h
  | .FloorDiv => vDiv v w h
  | .Mod => vMod v w h
  | .Pow => vPow v w h
  | _ => .bad
def vCmp (op : CmpOp) (v w : Val) (h : LH) : Res Val := match op with
  | .Eq => vEq v w h
  | .NotEq => vNe v w h
  | .Lt => vLt v w h
  | .LtE => vLe v w h
  | .Gt => vGt v w h
  | .GtE => vGe v w h
  | .Is => vIs v w h
  | .IsNot => vIsn v w h
  | .In => vIn v w h
  | .NotIn => vNin v w h
def blsOf : List Val → Option (List Bool)
  | [] => some []
  | .bl b :: r => (blsOf r).map (b :: ·)
  | _ :: _ => none
/-- a key, as a value -/
def keyV : Key → Val
  | .inl i => .int i
  | .inr x => .str x
/-- a dict's keys (ints, texts) -/
def keysK (v : Val) (h : LH) : Option (List Val) := match v with
  | .loc m => (match h[m]? with
    | some (.dK kvs) => some (kvs.map fun kv => keyV kv.1)
    | _ => none)
  | _ => none
def vBi (b : Bi) (vs : List Val) (h : LH) : Res Val := match b with
  | .len => (match vs with
    | [v] => ofO ((lenO v h).map fun (n : Nat) => Val.int (n : Int)) h
    | _ => .bad)
  | .abs => (match vs with
    | [.int i] => .ok (.int (if i < 0 then -i else i)) h
    | _ => .bad)
  | .int => (match vs with
    | [.int i] => .ok (.int i) h
    | [.bl b] => .ok (.int (if b then 1 else 0)) h
    | [.str x] => (match PySem.intText? x with
      | some n => chk (decide (x.length ≤ 640)) (.ok (.int n) h)
      | none => .bad)
    | _ => .bad)
  | .min2 => (match vs with
    | [.int i, .int j] => .ok (.int (if j < i then j else i)) h
    | _ => .bad)
  | .max2 => (match vs with
    | [.int i, .int j] => .ok (.int (if j > i then j else i)) h
    | _ => .bad)
  | .all => (match vs with
    | [v] => (match (seqL v h).bind blsOf with
      | some bs => .ok (.bl (bs.all id)) h
      | none => .bad)
    | _ => .bad)
  | .any => (match vs with
    | [v] => (match (seqL v h).bind blsOf with
      | some bs => .ok (.bl (bs.any id)) h
      | none => .bad)
    | _ => .bad)
  | .list => (match vs with
    | [v] => (match seqL v h with
      | some xs => newL xs h
      | none => match seqT v with
        | some xs => newL xs h
        | none => match keysK v h with
          | some xs => newL xs h
          | none => .bad)
    | _ => .bad)
  | .tuple => (match vs with
    | [v] => (match seqL v h with
      | some xs => .ok (.tup xs) h
      | none => match v with
        | .tup xs => .ok (.tup xs) h
        | _ => (match keysK v h with
          | some xs => .ok (.tup xs) h
          | none => .bad))
    | _ => .bad)
  | .str => (match vs with
    | [.int i] => chk (decide (i.natAbs.log2 < 1920)) (.ok (.str (toString i)) h)
    | [.str x] => .ok (.str x) h
    | _ => .bad)
  | .dict => (match vs with
    | [.loc m] => (match h[m]? with
      | some (.dK kvs) => .ok (.loc h.length) (h ++ [.dK kvs])
      | _ => .bad)
    | _ => .bad)
/-- texts -/
def strsOf : List Val → Option (List Str)
  | [] => some []
  | .str x :: r => (strsOf r).map (x :: ·)
  | _ :: _ => none
/-- the items of a list or tuple -/
def seqA (v : Val) (h : LH) : Option (List Val) := match seqL v h with
  | some xs => some xs
  | none => seqT v
def vOp (o : Op) (vs : List Val) (h : LH) : Res Val := match o with
  | .lset => (match vs with
    | [v] => (match (seqL v h).bind strsOf with
      | some xs => chk (decide (xs.length + 1 < scanBound)) (.ok (.int (once xs).length) h)
      | none => .bad)
    | _ => .bad)
def vMt (m : Mt) (o : Val) (vs : List Val) (h : LH) : Res Val := match m with
  | .append => (match o, vs with
    | .loc n, [v] => (match h[n]? with
      | some (.lst xs) => chk (decide (xs.length < sizeLine)) (.ok .non (h.set n (.lst (xs ++ [v]))))
      | _ => .bad)
    | _, _ => .bad)
  | .extend => (match o, vs with
    | .loc n, [.loc m] => (match h[n]?, h[m]? with
      | some (.lst xs), some (.lst zs) => chk (decide (xs.length + zs.length ≤ sizeLine)) (.ok .non (h.set n (.lst (xs ++ zs))))
      | _, _ => .bad)
    | _, _ => .bad)
  | .popAt => (match o, vs with
    | .loc n, [.int i] => (match h[n]? with
      | some (.lst xs) => (match ixN xs.length i with
        | some k => (match xs[k]? with
          | some y => .ok y (h.set n (.lst (xs.eraseIdx k)))
          | none => .bad)
        | none => .bad)
      | _ => .bad)
    | _, _ => .bad)
  | .split => (match o, vs with
    | .str a, [.str b] => chk (!(b.length == 0) && decide (a.length + 2 ≤ sizeLine)) (newL ((Txt.split a b).map .str) h)
    | _, _ => .bad)
  | .startsw => (match o, vs with
    | .str a, [.str b] => .ok (.bl (Txt.startswith a b)) h
    | _, _ => .bad)
  | .rmpre => (match o, vs with
    | .str a, [.str b] => chk (decide (a.length ≤ sizeLine)) (.ok (.str (Txt.removeprefix a b)) h)
    | _, _ => .bad)
  | .join => (match o, vs with
    | .str a, [v] => (match (seqA v h).bind strsOf with
      | some ys => chk (decide ((ys.map (·.length)).sum + ys.length * a.length ≤ 16777216)) (.ok (.str (Txt.join a ys)) h)
      | none => .bad)
    | _, _ => .bad)
  | .get2 => (match o, vs with
    | .loc n, [k, z] => (match h[n]? with
      | some ob => (match dGet ob k with
        | some (some y) => .ok y h
        | some none => .ok z h
        | none => .bad)
      | none => .bad)
    | _, _ => .bad)
def isStr : Val → Bool
  | .str _ => true
  | _ => false
/-- is the receiver of the method's class -/
def okTy (m : Mt) (v : Val) (h : LH) : Bool := match m with
  | .append => (seqL v h).isSome
  | .extend => (seqL v h).isSome
  | .popAt => (seqL v h).isSome
  | .get2 => (match v with
    | .loc n => (match h[n]? with
      | some (.dK _) => true
      | some (.dT _) => true
      | _ => false)
    | _ => false)
  | _ => isStr v
/-- expressions from the left -/
def evL (f : IE → LS → LH → Res Val) : List IE → LS → LH → Res (List Val)
  | [], _, h => .ok [] h
  | e :: es, sl, h => (f e sl h).bind fun v h1 => (evL f es sl h1).bind fun vs h2 => .ok (v :: vs) h2
/-- with stars -/
def evS (f : IE → LS → LH → Res Val) : List Bool → List IE → LS → LH → Res (List Val)
  | [], [], _, h => .ok [] h
  | b :: bs, e :: es, sl, h => (f e sl h).bind fun v h1 => match b with
    | false => (evS f bs es sl h1).bind fun vs h2 => .ok (v :: vs) h2
    | true => (match seqA v h1 with
      | some xs => (evS f bs es sl h1).bind fun vs h2 => .ok (xs ++ vs) h2
      | none => .bad)
  | _, _, _, _ => .bad
/-- a new list, a tuple -/
def lsTp (l : Bool) (vs : List Val) (h : LH) : Res Val := match l with
  | true => newL vs h
  | false => .ok (.tup vs) h
/-- and, or: all but the last True or False -/
def evAn (f : IE → LS → LH → Res Val) : List IE → LS → LH → Res Val
  | [], _, _ => .bad
  | [e], sl, h => f e sl h
  | e :: e2 :: es, sl, h => (f e sl h).bind fun v h1 => match v with
    | .bl true => evAn f (e2 :: es) sl h1
    | .bl false => .ok (.bl false) h1
    | _ => .bad
def evOr (f : IE → LS → LH → Res Val) : List IE → LS → LH → Res Val
  | [], _, _ => .bad
  | [e], sl, h => f e sl h
  | e :: e2 :: es, sl, h => (f e sl h).bind fun v h1 => match v with
    | .bl true => .ok (.bl true) h1
    | .bl false => evOr f (e2 :: es) sl h1
    | _ => .bad
def tsAn (f : IE → LS → LH → Res Bool) : List IE → LS → LH → Res Bool
  | [], _, _ => .bad
  | [e], sl, h => f e sl h
  | e :: e2 :: es, sl, h => (f e sl h).bind fun b h1 => match b with
    | true => tsAn f (e2 :: es) sl h1
    | false => .ok false h1
def tsOr (f : IE → LS → LH → Res Bool) : List IE → LS → LH → Res Bool
  | [], _, _ => .bad
  | [e], sl, h => f e sl h
  | e :: e2 :: es, sl, h => (f e sl h).bind fun b h1 => match b with
    | true => .ok true h1
    | false => tsOr f (e2 :: es) sl h1
/-- the ifs of a comprehension (at most one) -/
def tsIf (f : IE → LS → LH → Res Bool) : List IE → LS → LH → Res Bool
  | [], _, h => .ok true h
  | [e], sl, h => f e sl h
  | _, _, _ => .bad
mutual
def bindT : ITg → Val → LS → Option LS
  | .nm i, v, sl => some (sl.set i (some v))
  | .tp ts, v, sl => match seqT v with
    | some xs => bindTs ts xs sl
    | none => none
def bindTs : List ITg → List Val → LS → Option LS
  | [], [], sl => some sl
  | t :: ts, v :: vs, sl => (match bindT t v sl with
    | some sl1 => bindTs ts vs sl1
    | none => none)
  | _, _, _ => none
end
def wipeL (sl : LS) : List Nat → LS
  | [] => sl
  | v :: vs => (wipeL sl vs).set v none
/-- the source, of the values of its parts -/
def mkS0 (vs : List Val) (h : LH) : Option Src := match vs with
  | [v] => (match v with
    | .str x => some (.chr x)
    | _ => if ((seqL v h).isSome || (seqT v).isSome) then some (.seq v) else none)
  | _ => none
def mkS1 (vs : List Val) : Option Src := match vs with
  | [.int j] => if -(2 ^ 62) ≤ j ∧ j < 2 ^ 62 then some (.rng 0 j.toNat) else none
  | _ => none
def mkS2 (vs : List Val) : Option Src := match vs with
  | [.int i, .int j] => if -(2 ^ 62) ≤ i ∧ i < 2 ^ 62 ∧ -(2 ^ 62) ≤ j ∧ j < 2 ^ 62 then some (.rng i (j - i).toNat) else none
  | _ => none
def mkS3 (vs : List Val) (h : LH) : Option Src := match vs with
  | [v] => if (seqL v h).isSome then some (.enm v) else none
  | _ => none
def mkS4 (vs : List Val) (h : LH) : Option Src := match vs with
  | [v, w] => if ((seqL v h).isSome && (seqL w h).isSome) then some (.zp v w) else if ((seqT v).isSome && (seqT w).isSome) then some (.zt v w) else none
  | _ => none
def mkSrc (k : Nat) (vs : List Val) (h : LH) : Option Src := match k with
  | 0 => mkS0 vs h
  | 1 => mkS1 vs
  | 2 => mkS2 vs
  | 3 => mkS3 vs h
  | 4 => mkS4 vs h
  | _ => none
/-- the turn's item: some (some v); the end: some none -/
def item (s : Src) (i : Nat) (h : LH) : Option (Option Val) := match s with
  | .seq v => (match seqL v h with
    | some xs => some xs[i]?
    | none => match seqT v with
      | some xs => some xs[i]?
      | none => none)
  | .rng lo n => if i < n then some (some (.int (lo + i))) else some none
  | .enm v => (match seqL v h with
    | some xs => (match xs[i]? with
      | some x => some (some (.tup [.int i, x]))
      | none => some none)
    | none => none)
  | .zp v w => (match seqL v h, seqL w h with
    | some xs, some ys => (match xs[i]?, ys[i]? with
      | some x, some y => some (some (.tup [x, y]))
      | _, _ => some none)
    | _, _ => none)
  | .chr x => (match x.cps[i]? with
    | some c => some (some (.str ⟨#[c]⟩))
    | none => some none)
  | .zt v w => (match seqT v, seqT w with
    | some xs, some ys => (match xs[i]?, ys[i]? with
      | some x, some y => some (some (.tup [x, y]))
      | _, _ => some none)
    | _, _ => none)
def slI1 (v x : Val) (h : LH) : Res Val := match x with
  | .int i => vSl v (some i) none h
  | _ => .bad
def slI2 (v y : Val) (h : LH) : Res Val := match y with
  | .int j => vSl v none (some j) h
  | _ => .bad
def intK (x : Val) (k : Int → Res Val) : Res Val := match x with
  | .int i => k i
  | _ => .bad
/-- the second comparison of a chain -/
def chnK (z : Val) (h : LH) (k : LH → Res Val) : Res Val := match z with
  | .bl true => k h
  | .bl false => .ok (.bl false) h
  | _ => .bad
/-- no exception leaves a comprehension, a property -/
def calm {a : Type} (x : Res a) : Res a := match x with
  | .exc _ _ _ => .bad
  | x => x
/-- the class of an instance, its fields -/
def insO (v : Val) (h : LH) : Option (Str × List (Option Val)) := match v with
  | .loc n => (match h[n]? with
    | some (.slt c fs) => some (c, fs)
    | _ => none)
  | _ => none
/-- what is left out of a call -/
def fillV (G : Prg) (k : Nat) (vs : List Val) : List Val := match G.defs[k]? with
  | some D => vs ++ D.dfl.drop (vs.length + D.dfl.length - D.ps)
  | none => vs
def slotI (I : ClsI) (f : Str) : Option Nat := I.slots.findIdx? fun y => decide (y = f)
def putO (i : Nat) (v : Val) (fs : List (Option Val)) : List (Option Val) := (fs ++ List.replicate (i + 1 - fs.length) none).set i (some v)
/-- what an attribute is: a slot's value, or a getter -/
def attO (G : Prg) (v : Val) (f : Str) (h : LH) : Option (Sum Val Nat) := match insO v h with
  | some (c, fs) => (match G.cls.lookup c with
    | some I => (match slotI I f with
      | some i => (match fs[i]? with
        | some (some w) => some (.inl w)
        | _ => none)
      | none => (I.props.lookup f).map .inr)
    | none => none)
  | none => none
def mthO (G : Prg) (v : Val) (m : Str) (h : LH) : Option Nat := match insO v h with
  | some (c, _) => (match G.cls.lookup c with
    | some I => I.meths.lookup m
    | none => none)
  | none => none
/-- o.f = v -/
def vSta (G : Prg) (o : Val) (f : Str) (v : Val) (h : LH) : Option LH := match o, insO o h with
  | .loc n, some (c, fs) => (match G.cls.lookup c with
    | some I => (slotI I f).map fun i => h.set n (.slt c (putO i v fs))
    | none => none)
  | _, _ => none
def mkB (n : Nat) (x : Res Val) : Res Val := x.bind fun v h => match v with
  | .non => .ok (.loc n) h
  | _ => .bad
def dunB (op : Operator) : Option (Str × Str) := match op with
  | .Add => some ("__add__", "__radd__")
  | .Sub => some ("__sub__", "__rsub__")
  | .Mult => some ("__mul__", "__rmul__")
  | _ => none
def dunC (op : CmpOp) : Option (Str × Str) := match op with
  | .Lt => some ("__lt__", "__gt__")
  | .LtE => some ("__le__", "__ge__")
  | .Gt => some ("__gt__", "__lt__")
  | .GtE => some ("__ge__", "__le__")
  | .Eq => some ("__eq__", "__eq__")
  | _ => none
def isI : Val → Bool
  | .int _ => true
  | _ => false
def sameC (v w : Val) (h : LH) : Bool := match insO v h, insO w h with
  | some (c, _), some (c', _) => decide (c = c')
  | _, _ => false
/-- an operator by an instance's own method: which, with which arguments -/
def ownO (G : Prg) (p : Option (Str × Str)) (v w : Val) (h : LH) : Option (Nat × List Val) := match p with
  | some (f, g) => (match mthO G v f h, mthO G v g h, isI w || sameC v w h with
    | some k, some _, true => some (k, [v, w])
    | _, _, _ => (match isI v, mthO G w f h, mthO G w g h with
      | true, some _, some k => some (k, [w, v])
      | _, _, _ => none))
  | none => none
/-- not equal: the instance's own __eq__, turned about -/
def neO (G : Prg) (op : CmpOp) (v w : Val) (h : LH) : Option Nat := match op with
  | .NotEq => (match sameC v w h with
    | true => mthO G v "__eq__" h
    | false => none)
  | _ => none
def negB (x : Res Val) : Res Val := match x with
  | .ok (.bl b) h => .ok (.bl (!b)) h
  | _ => .bad
/-! ### one level -/
section
variable (G : Prg) (r : EV) (d : Nat)
/-- by an own method, or else -/
def stOwn (o : Option (Nat × List Val)) (x : Res Val) (h : LH) : Res Val := match o with
  | some (k, vs) => (match d with
    | d' + 1 => r.c d' k vs h
    | 0 => .bad)
  | none => x
def stCmp (op : CmpOp) (v w : Val) (h : LH) : Res Val := match neO G op v w h with
  | some k => (match d with
    | d' + 2 => negB (r.c d' k [v, w] h)
    | _ => .bad)
  | none => stOwn r d (ownO G (dunC op) v w h) (vCmp op v w h) h
def stAtt (v : Val) (f : Str) (h : LH) : Res Val := match attO G v f h with
  | some (.inl w) => .ok w h
  | some (.inr k) => (match d with
    | d' + 2 => calm (r.c d' k [v] h)
    | _ => .bad)
  | none => .bad
def stMk (c : Str) (vs : List Val) (h : LH) : Res Val := match G.cls.lookup c with
  | some I => mkB h.length (r.c d I.init (fillV G I.init (.loc h.length :: vs)) (h ++ [.slt c []]))
  | none => .bad
def stMcl (v : Val) (m : Str) (h : LH) (vs : LH → Res (List Val)) : Res Val := match d, mthO G v m h with
  | d' + 1, some k => (vs h).bind fun ws h2 => r.c d' k (fillV G k (v :: ws)) h2
  | _, _ => .bad
/-- {x}: a text or an int -/
def vFmt (v : Val) (h : LH) : Res Val := match v with
  | .str y => chk (decide (y.length ≤ sizeLine)) (.ok (.str y) h)
  | .int i => chk (decide (i.natAbs.log2 < 1920)) (.ok (.str (toString i)) h)
  | _ => .bad
/-- the parts' texts, one behind the other -/
def jsR (ev : IE → LS → LH → Res Val) : List IE → Str → LS → LH → Res Val
  | [], acc, _, h => .ok (.str acc) h
  | i :: is, acc, sl, h => (ev i sl h).bind fun v h1 => match v with
    | .str y => chk (decide ((acc ++ y).length ≤ sizeLine)) (jsR ev is (acc ++ y) sl h1)
    | _ => .bad
def onlyStr (x : Res Val) : Res Val := match x with
  | .ok (.str y) h => .ok (.str y) h
  | _ => .bad
/-- repr(v) -/
def stRpr (G : Prg) (r : EV) (d : Nat) (v : Val) (h : LH) : Res Val := match mthO G v "__repr__" h with
  | some k => (match d with
    | d' + 2 => onlyStr (r.c d' k [v] h)
    | _ => .bad)
  | none => vRep v h
def stE (ie : IE) (sl : LS) (h : LH) : Res Val := match ie with
  | .cst v => chk (noLoc v) (.ok v h)
  | .var i => (match sl[i]? with
    | some (some v) => .ok v h
    | _ => .bad)
  | .bin op a b => (r.e d a sl h).bind fun v h1 => (r.e d b sl h1).bind fun w h2 => stOwn r d (ownO G (dunB op) v w h2) (vBin op v w h2) h2
  | .neg a => (r.e d a sl h).bind fun v h1 => stOwn r d ((mthO G v "__neg__" h1).map fun k => (k, [v])) (vNeg v h1) h1
  | .cmp op a b => (r.e d a sl h).bind fun v h1 => (r.e d b sl h1).bind fun w h2 => stCmp G r d op v w h2
  | .chn op op' a b c => (r.e d a sl h).bind fun v h1 => (r.e d b sl h1).bind fun w h2 => (vCmp op v w h2).bind fun z h3 => chnK z h3 fun h3 => (r.e d c sl h3).bind fun u h4 => vCmp op' w u h4
  | .nt a => (r.e d a sl h).bind fun v h1 => match v with
    | .bl b => .ok (.bl (!b)) h1
    | _ => .bad
  | .an es => evAn (r.e d) es sl h
  | .orr es => evOr (r.e d) es sl h
  | .ife c a b => (r.t d c sl h).bind fun x h1 => match x with
    | true => r.e d a sl h1
    | false => r.e d b sl h1
  | .tp es => (evL (r.e d) es sl h).bind fun vs h1 => chk (decide (vs.length ≤ sizeLine)) (.ok (.tup vs) h1)
  | .ls es => (evL (r.e d) es sl h).bind fun vs h1 => chk (decide (vs.length ≤ sizeLine)) (newL vs h1)
  | .cal f es => (match d with
    | 0 => .bad
    | d' + 1 => (evL (r.e (d' + 1)) es sl h).bind fun vs h1 => r.c d' f vs h1)
  | .blt b es => (evL (r.e d) es sl h).bind fun vs h1 => vBi b vs h1
  | .lrg a => (r.e d a sl h).bind fun v h1 => match v with
    | .int n => chk (decide (-(2 ^ 62) ≤ n ∧ n < 2 ^ 62 ∧ n.toNat ≤ 2 ^ 24)) (newL ((List.range n.toNat).map fun (i : Nat) => Val.int (i : Int)) h1)
    | _ => .bad
  | .mth m o es => (r.e d o sl h).bind fun v h1 => match okTy m v h1 with
    | true => (evL (r.e d) es sl h1).bind fun vs h2 => vMt m v vs h2
    | false => .bad
  | .ix a b => (r.e d a sl h).bind fun v h1 => (r.e d b sl h1).bind fun w h2 => vIx v w h2
  | .sl a lo hi => (r.e d a sl h).bind fun v h1 => match lo, hi with
    | none, none => vSl v none none h1
    | some l, none => (r.e d l sl h1).bind fun x h2 => slI1 v x h2
    | none, some u => (r.e d u sl h1).bind fun y h2 => slI2 v y h2
    | some l, some u => (r.e d l sl h1).bind fun x h2 => intK x fun i => (r.e d u sl h2).bind fun y h3 => intK y fun j => vSl v (some i) (some j) h3
  | .mkE c e => (r.e d e sl h).bind fun v h1 => .ok (.err c v) h1
  | .fld e => (r.e d e sl h).bind fun v h1 => vFld G.errs v h1
  | .isi e c => (r.e d e sl h).bind fun v h1 => vIsi G.isiT G.errs G.isC c v h1
  | .rpr e => (r.e d e sl h).bind fun v h1 => stRpr G r d v h1
  | .fmt e => (r.e d e sl h).bind fun v h1 => vFmt v h1
  | .js es => jsR (r.e d) es Str.empty sl h
  | .opn o es => (evL (r.e d) es sl h).bind fun vs h1 => vOp o vs h1
  | .spl l bs es => (evS (r.e d) bs es sl h).bind fun vs h1 => chk (decide (vs.length ≤ sizeLine)) (lsTp l vs h1)
  | .dsp ks es => (match ks with
    | [] => .ok (.loc h.length) (h ++ [.dK []])
    | k :: ks => vDsp (k :: ks) (evL (r.e d) es) sl h)
  | .lc tg k es ifs elt own => (evL (r.e d) es sl h).bind fun vs h1 => match mkSrc k vs h1 with
    | some s => r.l d tg ifs elt own s 0 h1.length (wipeL sl own) (h1 ++ [.lst []])
    | none => .bad
  | .att e f => (r.e d e sl h).bind fun v h1 => stAtt G r d v f h1
  | .mk c es => (match d with
    | d' + 2 => (evL (r.e (d' + 2)) es sl h).bind fun vs h1 => stMk G r d' c vs h1
    | _ => .bad)
  | .mcl o m es => (r.e d o sl h).bind fun v h1 => stMcl G r d v m h1 fun h1 => evL (r.e d) es sl h1
  | .nvr => .bad
  | .tld e => (match d with
    | d' + 2 => vTold G.errs (r.e d' e sl h)
    | _ => .bad)
def stT (ie : IE) (sl : LS) (h : LH) : Res Bool := match ie with
  | .nt a => (r.t d a sl h).bind fun b h1 => .ok (!b) h1
  | .an es => tsAn (r.t d) es sl h
  | .orr es => tsOr (r.t d) es sl h
  | .cmp op a b => (r.e d (.cmp op a b) sl h).bind fun v h1 => match v with
    | .bl b => .ok b h1
    | _ => .bad
  | .chn op op' a b c => (r.e d (.chn op op' a b c) sl h).bind fun v h1 => match v with
    | .bl b => .ok b h1
    | _ => .bad
  | .ife _ _ _ => .bad
  | e => (r.e d e sl h).bind fun v h1 => match truO v h1 with
    | some b => .ok b h1
    | none => .bad
def ofR (x : Res Val) (sl : LS) (f : Val → LH → RsS) : RsS := match x with
  | .ok v h => f v h
  | .exc c v h => .exc c v sl h
  | .bad => .bad
def ofRB (x : Res Bool) (sl : LS) (f : Bool → LH → RsS) : RsS := match x with
  | .ok v h => f v h
  | .exc c v h => .exc c v sl h
  | .bad => .bad
def ofRL (x : Res (List Val)) (sl : LS) (f : List Val → LH → RsS) : RsS := match x with
  | .ok v h => f v h
  | .exc c v h => .exc c v sl h
  | .bad => .bad
/-- o[i] = v -/
def vSet (o i v : Val) (h : LH) : Option LH := match o with
  | .loc n => (match h[n]? with
    | some (.lst xs) => (match i with
      | .int k => (ixN xs.length k).map fun j => h.set n (.lst (xs.set j v))
      | _ => none)
    | some (.dK kvs) => if kvs.length < sizeLine then (keyOf i).map fun k => h.set n (.dK (put kvs k v)) else none
    | some (.dT kvs) => (match i with
      | .tup ks => if kvs.length < sizeLine then (keysOf ks).map fun k => h.set n (.dT (put kvs k v)) else none
      | _ => none)
    | _ => none)
  | _ => none
def nxB (tg : ITg) (v : Val) (sl : LS) (h1 : LH) : RsS := match bindT tg v sl with
  | some sl1 => .nx sl1 h1
  | none => .bad
def stS1 (st : IS) (sl : LS) (h : LH) : RsS := match st with
  | .ex e => ofR (r.e d e sl h) sl fun _ h1 => .nx sl h1
  | .asg tg e => ofR (r.e d e sl h) sl fun v h1 => nxB tg v sl h1
  | .sub o i e => ofR (r.e d e sl h) sl fun v h1 => ofR (r.e d o sl h1) sl fun ov h2 => ofR (r.e d i sl h2) sl fun iv h3 => match vSet ov iv v h3 with
    | some h4 => .nx sl h4
    | none => .bad
  | .ret none => .rt .non h
  | .ret (some e) => ofR (r.e d e sl h) sl fun v h1 => .rt v h1
  | .iff c a b => ofRB (r.t d c sl h) sl fun x h1 => match x with
    | true => r.s d a sl h1
    | false => r.s d b sl h1
  | .for_ tg k es body => ofRL (evL (r.e d) es sl h) sl fun vs h1 => match mkSrc k vs h1 with
    | some s => r.f d tg body s 0 sl h1
    | none => .bad
  | .whl c body => r.w d c body sl h
  | .brk => .bk sl h
  | .cnt => .ct sl h
  | .pas => .nx sl h
  | .nev => .bad
  | .sta o f e => ofR (r.e d e sl h) sl fun v h1 => ofR (r.e d o sl h1) sl fun ov h2 => match vSta G ov f v h2 with
    | some h3 => .nx sl h3
    | none => .bad
  | .rse c e => ofR (r.e d e sl h) sl fun v h1 => match G.errs.contains c with
    | true => .exc c v sl h1
    | false => .bad
def stS (sts : List IS) (sl : LS) (h : LH) : RsS := match sts with
  | [] => .nx sl h
  | s :: rest => (match stS1 G r d s sl h with
    | .nx sl1 h1 => r.s d rest sl1 h1
    | x => x)
def stF (tg : ITg) (body : List IS) (s : Src) (i : Nat) (sl : LS) (h : LH) : RsS := match item s i h with
  | none => .bad
  | some none => .nx sl h
  | some (some v) => (match bindT tg v sl with
    | none => .bad
    | some sl1 => (match r.s d body sl1 h with
      | .nx sl2 h2 => r.f d tg body s (i + 1) sl2 h2
      | .ct sl2 h2 => r.f d tg body s (i + 1) sl2 h2
      | .bk sl2 h2 => .nx sl2 h2
      | x => x))
def stW (c : IE) (body : List IS) (sl : LS) (h : LH) : RsS := ofRB (r.t d c sl h) sl fun x h1 => match x with
  | false => .nx sl h1
  | true => (match r.s d body sl h1 with
    | .nx sl2 h2 => r.w d c body sl2 h2
    | .ct sl2 h2 => r.w d c body sl2 h2
    | .bk sl2 h2 => .nx sl2 h2
    | x => x)
def stL (tg : ITg) (ifs : List IE) (elt : IE) (own : List Nat) (s : Src) (i D : Nat) (sl : LS) (h : LH) : Res Val := match item s i h with
  | none => .bad
  | some none => .ok (.loc D) h
  | some (some v) => (match bindT tg v sl with
    | none => .bad
    | some sl1 => (calm (tsIf (r.t d) ifs sl1 h)).bind fun b h1 => match b with
      | false => r.l d tg ifs elt own s (i + 1) D sl h1
      | true => (calm (r.e d elt sl1 h1)).bind fun y h2 => match h2[D]? with
        | some (.lst acc) => (match decide (acc.length < sizeLine) with
          | true => r.l d tg ifs elt own s (i + 1) D sl (h2.set D (.lst (acc ++ [y])))
          | false => .bad)
        | _ => .bad)
def stC (f : Nat) (vs : List Val) (h : LH) : Res Val := match G.defs[f]? with
  | none => .bad
  | some D => (match decide (vs.length = D.ps) with
    | false => .bad
    | true => (match r.s d D.body (vs.map some ++ List.replicate (D.n - vs.length) none) h with
      | .rt v h1 => .ok v h1
      | .nx _ h1 => .ok .non h1
      | .exc c v _ h1 => .exc c v h1
      | _ => .bad))
end
def EV.none : EV := ⟨fun _ _ _ _ => .bad, fun _ _ _ _ => .bad, fun _ _ _ _ => .bad, fun _ _ _ _ _ _ _ => .bad, fun _ _ _ _ _ => .bad, fun _ _ _ _ _ _ _ _ _ _ => .bad, fun _ _ _ _ => .bad⟩
def EV.next (G : Prg) (r : EV) : EV := ⟨fun d => stE G r d, fun d => stT r d, fun d => stS G r d, fun d => stF r d, fun d => stW r d, fun d => stL r d, fun d => stC G r d⟩
/-- the evaluator, n levels -/
def run (G : Prg) : Nat → EV
  | 0 => EV.none
  | n + 1 => EV.next G (run G n)
end Mi

set_option Elab.async false
set_option linter.all false
set_option maxRecDepth 100000
set_option maxHeartbeats 1000000
/-! D7: built-in calls, methods, sources, targets. -/
namespace Mi
open PySem L2 PyProof.Rows
def biV : Bi → Value
  | .len => .builtin "len"
  | .abs => .builtin "abs"
  | .int => .type "int"
  | .min2 => .builtin "min"
  | .max2 => .builtin "max"
  | .all => .builtin "all"
  | .any => .builtin "any"
  | .list => .type "list"
  | .tuple => .type "tuple"
  | .str => .type "str"
  | .dict => .type "dict"
section
variable {K : PySem.W.Frag} {ca : CaT} {ia : List Addr} {H : Hp} {h : LH}
theorem rvs1 {v : Val} {xs : List V} (r : RVs K ia H [v] xs) : ∃ x, xs = [x] ∧ RV K ia H v x := by
  cases r with
  | cons a t => cases t; exact ⟨_, rfl, a⟩
theorem rvs2 {v w : Val} {xs : List V} (r : RVs K ia H [v, w] xs) : ∃ x y, xs = [x, y] ∧ RV K ia H v x ∧ RV K ia H w y := by
  cases r with
  | cons a t =>
    obtain ⟨y, rfl, b⟩ := rvs1 t
    exact ⟨_, _, rfl, a, b⟩
theorem blsOf_ok : ∀ {vs : List Val} {xs : List V} {bs : List Bool}, blsOf vs = some bs → RVs K ia H vs xs → xs = bs.map V.bl
  | _, _, _, e, .nil => by cases e; rfl
  | v :: vs, x :: xs, bs, e, .cons r t => by
    cases r with
    | bl b =>
      obtain ⟨bs', e1, e2⟩ := Option.map_eq_some_iff.mp (show (blsOf vs).map (b :: ·) = some bs from e)
      subst e2
      rw [blsOf_ok e1 t]
      rfl
    | _ => cases e
end
section
variable {X : Cx} {ca : CaT}
theorem keysK_ok {K : PySem.W.Frag} {ia : List Addr} {H : Hp} {h : LH} {v : Val} {x : V} {xs : List Val} (R : Rep K ca ia H h) (e : keysK v h = some xs) (r : RV K ia H v x) : ∃ a kws, x = .ref a ∧ H a = some (.dK kws) ∧ RVs K ia H xs (kws.map fun kv => kV kv.1) := by
  unfold keysK at e
  split at e
  · rename_i m
    split at e
    · rename_i kvs em
      cases e
      cases r with
      | @loc _ a q =>
        obtain ⟨kws, h1, h2⟩ := R.ob m _ a em q
        refine ⟨a, kws, rfl, h1, ?_⟩
        clear h1 em q
        induction h2 with
        | nil => exact .nil
        | @cons k v w xs ys r t ih =>
          refine .cons ?_ ih
          cases k with
          | inl i => exact .int i
          | inr z => exact .str z
    · cases e
  · cases e
theorem strsOf_ok {K : PySem.W.Frag} {ia : List Addr} {H : Hp} : ∀ {vs : List Val} {xs : List V} {ys : List Str}, strsOf vs = some ys → RVs K ia H vs xs → xs = ys.map V.str
  | _, _, _, e, .nil => by cases e; rfl
  | v :: vs, x :: xs, ys, e, .cons r t => by
    cases r with
    | str b =>
      obtain ⟨ys', e1, e2⟩ := Option.map_eq_some_iff.mp (show (strsOf vs).map (b :: ·) = some ys from e)
      subst e2
      rw [strsOf_ok e1 t]
      rfl
    | _ => cases e
theorem cv_bi (hc : X.calm = true) (b : Bi) : CallR X (biV b) (rVL X.K ca (vBi b)) := by
  intro pins s st H xs us Q I rx ⟨ia, h, vs, E, R, rv, w⟩
  cases b with
  | len =>
    dsimp only [vBi] at w
    split at w
    · obtain ⟨x, rfl, r1⟩ := rvs1 rv
      obtain ⟨v', e, w⟩ := ofO_ok w
      obtain ⟨n, e1, e2⟩ := Option.map_eq_some_iff.mp e
      subst e2
      exact call_len pins s st H _ us Q I rx ⟨x, n, rfl, lenO_ok R e1 r1, w.now R (.int _)⟩
    · exact (show False from w).elim
  | abs =>
    dsimp only [vBi] at w
    split at w
    · obtain ⟨x, rfl, r1⟩ := rvs1 rv
      cases r1
      exact call_abs pins s st H _ us Q I rx ⟨_, rfl, w.now R (.int _)⟩
    · exact (show False from w).elim
  | int =>
    dsimp only [vBi] at w
    split at w
    · obtain ⟨x, rfl, r1⟩ := rvs1 rv
      cases r1
      exact call_int1 pins s st H _ us Q I rx (.inl ⟨_, rfl, w.now R (.int _)⟩)
    · obtain ⟨x, rfl, r1⟩ := rvs1 rv
      cases r1
      exact call_int1 pins s st H _ us Q I rx (.inr ⟨_, rfl, w.now R (.int _)⟩)
    · obtain ⟨x, rfl, r1⟩ := rvs1 rv
      cases r1
      split at w
      · rename_i n hn
        obtain ⟨c, w⟩ := chk_ok w
        exact call_int_str pins s st H _ us Q I rx ⟨_, n, rfl, hn, of_decide_eq_true c, w.now R (.int _)⟩
      · exact (show False from w).elim
    · exact (show False from w).elim
  | min2 =>
    dsimp only [vBi] at w
    split at w
    · obtain ⟨x, y, rfl, r1, r2⟩ := rvs2 rv
      cases r1; cases r2
      exact call_min2 hc pins s st H _ us Q I rx ⟨_, _, rfl, w.now R (.int _)⟩
    · exact (show False from w).elim
  | max2 =>
    dsimp only [vBi] at w
    split at w
    · obtain ⟨x, y, rfl, r1, r2⟩ := rvs2 rv
      cases r1; cases r2
      exact call_max2 hc pins s st H _ us Q I rx ⟨_, _, rfl, w.now R (.int _)⟩
    · exact (show False from w).elim
  | all =>
    dsimp only [vBi] at w
    split at w
    · split at w
      · rename_i bs e
        obtain ⟨x, rfl, r1⟩ := rvs1 rv
        obtain ⟨zs, e1, e2⟩ := Option.bind_eq_some_iff.mp e
        obtain ⟨a, ys, rfl, hq, rq⟩ := seqL_ok R e1 r1
        have ey := blsOf_ok e2 rq
        subst ey
        exact cr_all hc pins s st H _ us Q I rx ⟨a, bs, rfl, hq, w.now R (.bl _)⟩
      · exact (show False from w).elim
    · exact (show False from w).elim
  | any =>
    dsimp only [vBi] at w
    split at w
    · split at w
      · rename_i bs e
        obtain ⟨x, rfl, r1⟩ := rvs1 rv
        obtain ⟨zs, e1, e2⟩ := Option.bind_eq_some_iff.mp e
        obtain ⟨a, ys, rfl, hq, rq⟩ := seqL_ok R e1 r1
        have ey := blsOf_ok e2 rq
        subst ey
        exact cr_any hc pins s st H _ us Q I rx ⟨a, bs, rfl, hq, w.now R (.bl _)⟩
      · exact (show False from w).elim
    · exact (show False from w).elim
  | list =>
    dsimp only [vBi] at w
    split at w
    · obtain ⟨x, rfl, r1⟩ := rvs1 rv
      split at w
      · rename_i zs e
        obtain ⟨a, ys, rfl, hq, rq⟩ := seqL_ok R e r1
        exact call_list_of pins s st H _ us Q I rx ⟨a, ys, rfl, .inl hq, w.newL R rq⟩
      · split at w
        · rename_i zs e
          obtain ⟨a, ys, rfl, hq, rq⟩ := seqT_ok e r1
          exact call_list_of pins s st H _ us Q I rx ⟨a, ys, rfl, .inr hq, w.newL R rq⟩
        · split at w
          · rename_i xs e
            obtain ⟨a, kws, rfl, h1, h2⟩ := keysK_ok R e r1
            exact call_list_dK hc pins s st H _ us Q I rx ⟨a, kws, rfl, h1, w.newL R h2⟩
          · exact (show False from w).elim
    · exact (show False from w).elim
  | tuple =>
    dsimp only [vBi] at w
    split at w
    · obtain ⟨x, rfl, r1⟩ := rvs1 rv
      split at w
      · rename_i zs e
        obtain ⟨a, ys, rfl, hq, rq⟩ := seqL_ok R e r1
        exact call_tuple_of pins s st H _ us Q I rx ⟨a, ys, rfl, .inl ⟨hq, w.newT R rq⟩⟩
      · split at w
        · have r1' := r1
          cases r1 with
          | @tup _ ys a hq rq => exact call_tuple_of pins s st H _ us Q I rx ⟨a, ys, rfl, .inr ⟨SqT.of hq, w.now R r1'⟩⟩
        · split at w
          · rename_i xs e
            obtain ⟨a, kws, rfl, h1, h2⟩ := keysK_ok R e r1
            exact call_tup_dK hc pins s st H _ us Q I rx ⟨a, kws, rfl, h1, w.newT R h2⟩
          · exact (show False from w).elim
    · exact (show False from w).elim
  | str =>
    dsimp only [vBi] at w
    split at w
    · obtain ⟨x, rfl, r1⟩ := rvs1 rv
      cases r1
      obtain ⟨c, w⟩ := chk_ok w
      exact call_str_int pins s st H _ us Q I rx ⟨_, rfl, of_decide_eq_true c, w.now R (.str _)⟩
    · obtain ⟨x, rfl, r1⟩ := rvs1 rv
      cases r1
      exact SkE.call_str_str pins s st H _ us Q I rx ⟨_, rfl, w.now R (.str _)⟩
    · exact (show False from w).elim
  | dict =>
    dsimp only [vBi] at w
    split at w
    · split at w
      · rename_i kvs e
        obtain ⟨x, rfl, r1⟩ := rvs1 rv
        cases r1 with
        | @loc _ a q =>
          obtain ⟨kws, h1, h2⟩ := R.ob _ _ a e q
          refine call_dictD pins s st H _ us Q I rx ⟨a, kws, rfl, .inl h1, fun p n => ?_⟩
          refine w [p] _ (.ref p) (Grow.push n) (R.push n ⟨kws, upd_same, h2.stay (Hold.newL n)⟩) (.loc ?_)
          rw [← R.len]
          simp
      · exact (show False from w).elim
    · exact (show False from w).elim
/-! ### methods -/
def rVM (K : PySem.W.Frag) (ca : CaT) (m : Mt) : V → List V → Hp → VK → Prop := fun x xs H Q => ∃ (ia : List Addr) (h : LH) (v : Val) (vs : List Val) (E : XK), Rep K ca ia H h ∧ RV K ia H v x ∧ RVs K ia H vs xs ∧ Want K ca ia H (vMt m v vs h) Q E
def mtId : Mt → String
  | .append => "list.append"
  | .extend => "list.extend"
  | .popAt => "list.pop"
  | .split => "str.split"
  | .startsw => "str.startswith"
  | .rmpre => "str.removeprefix"
  | .join => "str.join"
  | .get2 => "dict.get"
def mtT : Mt → String
  | .append => "list"
  | .extend => "list"
  | .popAt => "list"
  | .get2 => "dict"
  | _ => "str"
/-- how many arguments -/
def mtN : Mt → Nat
  | .get2 => 2
  | _ => 1
def mtName : Mt → Str
  | .append => "append"
  | .extend => "extend"
  | .popAt => "pop"
  | .split => "split"
  | .startsw => "startswith"
  | .rmpre => "removeprefix"
  | .join => "join"
  | .get2 => "get"
theorem okTy_ok {K : PySem.W.Frag} {ia : List Addr} {H : Hp} {h : LH} {m : Mt} {v : Val} {x : V} (R : Rep K ca ia H h) (r : RV K ia H v x) (e : okTy m v h = true) : tyV K (mtT m) x H := by
  have key : ∀ {T : String}, T = "list" → (seqL v h).isSome = true → tyV K T x H := fun {T} hT e' => by
    obtain ⟨xs, e1⟩ := Option.isSome_iff_exists.mp e'
    obtain ⟨a, ys, rfl, hq, _⟩ := seqL_ok R e1 r
    exact .inl ⟨hT, ys, hq⟩
  have kst : ∀ {T : String}, T = "str" → isStr v = true → tyV K T x H := fun {T} hT e' => by
    cases v with
    | str z => cases r; exact hT
    | _ => cases e'
  cases m with
  | append => exact key rfl e
  | extend => exact key rfl e
  | popAt => exact key rfl e
  | split => exact kst rfl e
  | startsw => exact kst rfl e
  | rmpre => exact kst rfl e
  | join => exact kst rfl e
  | get2 =>
    cases v with
    | loc n =>
      have e : (match h[n]? with
        | some (.dK _) => true
        | some (.dT _) => true
        | _ => false) = true := e
      cases r with
      | @loc _ a q =>
        split at e
        · rename_i em
          obtain ⟨kws, h1, _⟩ := R.ob n _ a em q
          exact .inr (.inr (.inl ⟨rfl, .inl ⟨_, h1⟩⟩))
        · rename_i em
          obtain ⟨kws, h1, _⟩ := R.ob n _ a em q
          exact .inr (.inr (.inl ⟨rfl, .inr ⟨_, h1⟩⟩))
        · cases e
    | _ => cases e
/-- a list of the small heap is written -/
theorem Want.wrote {K : PySem.W.Frag} {ia : List Addr} {H : Hp} {h : LH} {n : Nat} {a : Addr} {v : Val} {y : V} {zs : List Val} {ys ys' : List V} {Q : VK} {E : XK} (w : Want K ca ia H (.ok v (h.set n (.lst zs))) Q E) (R : Rep K ca ia H h) (ha : ia[n]? = some a) (hy : H a = some (.lst ys))
    (r : RV K ia H v y) (rz : RVs K ia H zs ys') : Q y (upd H a (.lst ys')) := by
  have k : Hold ia [] H (upd H a (.lst ys')) := Hold.set hy (fun _ z => nomatch z) (fun _ _ z => nomatch z)
  refine w [] _ y (Grow.set ha hy) ?_ ?_
  · rw [app_nil]
    have q := RVs.stay (ka := []) k rz
    rw [app_nil] at q
    exact R.set ha k ⟨ys', upd_same, q⟩
  · exact r.stay k
theorem rvs_erase {K : PySem.W.Frag} {ia : List Addr} {H : Hp} : ∀ {vs : List Val} {xs : List V} (k : Nat), RVs K ia H vs xs → RVs K ia H (vs.eraseIdx k) (xs.eraseIdx k)
  | _, _, _, .nil => by simp; exact .nil
  | _, _, 0, .cons _ t => t
  | _, _, k + 1, .cons a t => .cons a (rvs_erase k t)
theorem mv_mt (hu : X.A.units + 1 < cLine) (m : Mt) : MtR X (mtId m) (rVM X.K ca m) := by
  intro pins s st H x xs v us Q I rx rxs ⟨ia, h, a, vs, E, R, ra, rv, w⟩
  cases m with
  | append =>
    dsimp only [vMt] at w
    split at w
    · split at w
      · rename_i e
        obtain ⟨c, w⟩ := chk_ok w
        have c := of_decide_eq_true c
        obtain ⟨p, ys, rfl, hp, h1, r1⟩ := R.lst e ra
        obtain ⟨y, rfl, r2⟩ := rvs1 rv
        have l := r1.len
        exact mt_append pins s st H _ _ v us Q I rx rxs ⟨p, ys, y, rfl, rfl, h1, by omega, w.wrote R hp h1 .non (r1.app (.cons r2 .nil))⟩
      · exact (show False from w).elim
    · exact (show False from w).elim
  | extend =>
    dsimp only [vMt] at w
    split at w
    · split at w
      · rename_i e e2
        obtain ⟨c, w⟩ := chk_ok w
        have c := of_decide_eq_true c
        obtain ⟨p, ys, rfl, hp, h1, r1⟩ := R.lst e ra
        obtain ⟨y, rfl, r2⟩ := rvs1 rv
        obtain ⟨q, zs, rfl, _, h2, r3⟩ := R.lst e2 r2
        have l := r1.len
        have l2 := r3.len
        exact mt_extend pins s st H _ _ v us Q I rx rxs ⟨p, q, ys, zs, rfl, rfl, h1, h2, by omega, w.wrote R hp h1 .non (r1.app r3)⟩
      · exact (show False from w).elim
    · exact (show False from w).elim
  | popAt =>
    dsimp only [vMt] at w
    split at w
    · split at w
      · rename_i e
        split at w
        · rename_i k ek
          split at w
          · rename_i y ey
            obtain ⟨p, ys, rfl, hp, h1, r1⟩ := R.lst e ra
            obtain ⟨z, rfl, r2⟩ := rvs1 rv
            cases r2
            obtain ⟨y', e1, r3⟩ := r1.get ey
            have l := r1.len
            rw [l] at ek
            obtain ⟨k1, k2, k3, k4⟩ := ixN_seq ek
            obtain ⟨_, _, _, _, hz⟩ := I.lst h1
            have hn := line63
            exact mt_popAt pins s st H _ _ v us Q I rx rxs ⟨p, ys, _, k, y', rfl, rfl, h1, by omega, by omega, k1, e1, w.wrote R hp h1 r3 (rvs_erase k r1)⟩
          · exact (show False from w).elim
        · exact (show False from w).elim
      · exact (show False from w).elim
    · exact (show False from w).elim
  | split =>
    dsimp only [vMt] at w
    split at w
    · obtain ⟨c, w⟩ := chk_ok w
      obtain ⟨c1, c2⟩ := Bool.and_eq_true_iff.mp c
      cases ra
      obtain ⟨z, rfl, r2⟩ := rvs1 rv
      cases r2
      refine mt_split pins s st H _ _ v us Q I rx rxs ⟨_, _, rfl, rfl, by simpa using c1, of_decide_eq_true c2, ?_⟩
      refine w.newL R ?_
      generalize Txt.split _ _ = l
      induction l with
      | nil => exact .nil
      | cons z l ih => exact .cons (.str z) ih
    · exact (show False from w).elim
  | startsw =>
    dsimp only [vMt] at w
    split at w
    · cases ra
      obtain ⟨z, rfl, r2⟩ := rvs1 rv
      cases r2
      exact mt_startswith pins s st H _ _ v us Q I rx rxs ⟨_, _, rfl, rfl, w.now R (.bl _)⟩
    · exact (show False from w).elim
  | rmpre =>
    dsimp only [vMt] at w
    split at w
    · obtain ⟨c, w⟩ := chk_ok w
      cases ra
      obtain ⟨z, rfl, r2⟩ := rvs1 rv
      cases r2
      exact mt_removeprefix pins s st H _ _ v us Q I rx rxs ⟨_, _, rfl, rfl, of_decide_eq_true c, w.now R (.str _)⟩
    · exact (show False from w).elim
  | join =>
    dsimp only [vMt] at w
    split at w
    · split at w
      · rename_i ys e
        obtain ⟨c, w⟩ := chk_ok w
        cases ra
        obtain ⟨z, rfl, r2⟩ := rvs1 rv
        obtain ⟨zs, e1, e2⟩ := Option.bind_eq_some_iff.mp e
        unfold seqA at e1
        split at e1
        · rename_i es
          cases e1
          obtain ⟨b, xs, rfl, hq, rq⟩ := seqL_ok R es r2
          have ex := strsOf_ok e2 rq
          subst ex
          exact mt_join pins s st H _ _ v us Q I rx rxs ⟨_, b, ys, rfl, rfl, .inl hq, of_decide_eq_true c, w.now R (.str _)⟩
        · obtain ⟨b, xs, rfl, hq, rq⟩ := seqT_ok e1 r2
          have ex := strsOf_ok e2 rq
          subst ex
          exact mt_join pins s st H _ _ v us Q I rx rxs ⟨_, b, ys, rfl, rfl, .inr hq, of_decide_eq_true c, w.now R (.str _)⟩
      · exact (show False from w).elim
    · exact (show False from w).elim
  | get2 =>
    dsimp only [vMt] at w
    split at w
    · rename_i n k z
      split at w
      · rename_i ob eo
        obtain ⟨x1, x2, rfl, r1, r2⟩ := rvs2 rv
        cases rxs with
        | cons ru1 rxs =>
          cases rxs with
          | cons ru2 rxs =>
            cases rxs
            split at w
            · rename_i y ey
              obtain ⟨p, g', rfl, dg, hg⟩ := dGet_ok R eo ey ra r1
              cases (show v = Value.ref p from rx)
              rcases hg with ⟨z1, _⟩ | ⟨y1, w1, z1, z2, z3⟩
              · cases z1
              · cases z1
                exact d_get2 hu I dg ru1 ru2 fun w' s' I' rw' => ⟨_, H, I', rw', by rw [z2]; exact w.now R z3⟩
            · rename_i ey
              obtain ⟨p, g', rfl, dg, hg⟩ := dGet_ok R eo ey ra r1
              cases (show v = Value.ref p from rx)
              rcases hg with ⟨_, z2⟩ | ⟨y1, w1, z1, z2, z3⟩
              · exact d_get2 hu I dg ru1 ru2 fun w' s' I' rw' => ⟨_, H, I', rw', by rw [z2]; exact w.now R r2⟩
              · cases z1
            · exact (show False from w).elim
      · exact (show False from w).elim
    · exact (show False from w).elim
end
end Mi

set_option Elab.async false
set_option linter.all false
set_option maxRecDepth 100000
set_option maxHeartbeats 1000000
/-! D8: sources, targets, blocks, loops. -/
namespace Mi
open PySem L2 PyProof.Rows
def isL : Val → Bool
  | .cl _ => true
  | .loc _ => true
  | _ => false
def isT : Val → Bool
  | .tup _ => true
  | .ct _ => true
  | _ => false
/-- how a source lies in the layer -/
def SrcR (K : PySem.W.Frag) (ia : List Addr) (H : Hp) (s : Src) (J : It) : Prop := match s with
  | .seq v => ∃ a, RV K ia H v (.ref a) ∧ ((isL v = true ∧ J = Itl K a) ∨ (isT v = true ∧ J = Itt K a))
  | .rng lo n => J = Itr lo n
  | .enm v => ∃ a, RV K ia H v (.ref a) ∧ isL v = true ∧ J = Ite K a
  | .zp v w => ∃ a b, RV K ia H v (.ref a) ∧ RV K ia H w (.ref b) ∧ isL v = true ∧ isL w = true ∧ J = Itz K a b
  | .chr x => J = Its x
  | .zt v w => ∃ a b, RV K ia H v (.ref a) ∧ RV K ia H w (.ref b) ∧ isT v = true ∧ isT w = true ∧ J = RZ.ItzT K a b
section
variable {K : PySem.W.Frag} {ca : CaT} {ia ka : List Addr} {H H' : Hp} {h : LH} {s : Src} {J : It} {i : Nat}
theorem SrcR.stay (k : Hold ia ka H H') (r : SrcR K ia H s J) : SrcR K (ia ++ ka) H' s J := by
  cases s with
  | seq v => obtain ⟨a, q, z⟩ := r; exact ⟨a, q.stay k, z⟩
  | rng lo n => exact r
  | enm v => obtain ⟨a, q, z⟩ := r; exact ⟨a, q.stay k, z⟩
  | zp v w => obtain ⟨a, b, q, q2, z⟩ := r; exact ⟨a, b, q.stay k, q2.stay k, z⟩
  | chr x => exact r
  | zt v w => obtain ⟨a, b, q, q2, z⟩ := r; exact ⟨a, b, q.stay k, q2.stay k, z⟩
/-- a new tuple disturbs nothing -/
theorem Rep.tupNew (R : Rep K ca ia H h) {p : Addr} {ys : List V} (n : H p = none) : Rep K ca ia (upd H p (.tup ys)) h ∧ Grow ia H [] (upd H p (.tup ys)) := by
  have k : Hold ia [] H (upd H p (.tup ys)) := Hold.newT n
  refine ⟨⟨R.len, R.nd, fun m o a e1 e2 => ?_, fun q hq => by
    have z := (R.tab q hq).stay (ka := []) k (tbl_new n)
    rw [app_nil] at z
    exact z⟩, ⟨fun b o e _ _ _ => by rw [upd_ne (ne_of_none e n)]; exact e, fun b o e => ⟨o, by rw [upd_ne (ne_of_none e n)]; exact e⟩, (fun _ z => nomatch z), fun b y e _ => .inl (by rw [upd_ne (ne_of_none e n)]; exact e), fun b o u e => by rw [upd_ne (ne_of_none e n)]; exact e⟩⟩
  have q := R.ob m o a e1 e2
  have ne : a ≠ p := fun z => by
    rw [z] at q
    obtain ⟨_, q, _⟩ := q.kind
    rw [n] at q
    cases q
  have z := q.stay (ka := []) k (upd_ne ne)
  rw [app_nil] at z
  exact z
theorem isL_some {v : Val} (e : isL v = true) : seqT v = none := by cases v <;> first | rfl | cases e
theorem isT_some {v : Val} (e : isT v = true) : seqL v h = none ∧ ∃ xs, seqT v = some xs := by cases v <;> first | exact ⟨rfl, _, rfl⟩ | cases e
end
section
variable {K : PySem.W.Frag} {ca : CaT} {ia : List Addr} {H : Hp} {h : LH} {s : Src} {J : It} {i : Nat}
theorem item_go (R : Rep K ca ia H h) (r : SrcR K ia H s J) {v : Val} (e : item s i h = some (some v)) :
    J.go i H ∧ ∀ x H', J.yld i H x H' → Grow ia H [] H' ∧ Rep K ca ia H' h ∧ RV K ia H' v x := by
  cases s with
  | seq w =>
    obtain ⟨a, q, ⟨hl, hJ⟩ | ⟨ht, hJ⟩⟩ := r
    · subst hJ
      have e' : (match seqL w h with
        | some xs => some xs[i]?
        | none => match seqT w with
          | some xs => some xs[i]?
          | none => none) = some (some v) := e
      rw [isL_some hl] at e'
      split at e'
      · rename_i xs e1
        obtain ⟨b, ys, eb, hs, rs⟩ := seqL_ok R e1 q
        cases eb
        obtain ⟨y, e2, ry⟩ := rs.get (Option.some.inj e')
        refine ⟨⟨ys, y, hs, e2⟩, fun x H' hy => ?_⟩
        obtain ⟨rfl, hy⟩ := hy
        have ex := hy ys hs
        rw [e2] at ex
        cases ex
        exact ⟨Grow.refl ia _, R, ry⟩
      · cases e'
    · subst hJ
      obtain ⟨h1, xs, h2⟩ := isT_some (h := h) ht
      have e' : (match seqL w h with
        | some xs => some xs[i]?
        | none => match seqT w with
          | some xs => some xs[i]?
          | none => none) = some (some v) := e
      rw [h1, h2] at e'
      obtain ⟨b, ys, eb, hs, rs⟩ := seqT_ok h2 q
      cases eb
      obtain ⟨y, e2, ry⟩ := rs.get (Option.some.inj e')
      refine ⟨⟨ys, y, hs, e2⟩, fun x H' hy => ?_⟩
      obtain ⟨rfl, hy⟩ := hy
      have ex := hy ys hs
      rw [e2] at ex
      cases ex
      exact ⟨Grow.refl ia _, R, ry⟩
  | rng lo n =>
    cases r
    have e' : (if i < n then some (some (Val.int (lo + i))) else some none) = some (some v) := e
    split at e'
    · rename_i hi
      cases e'
      refine ⟨hi, fun x H' hy => ?_⟩
      obtain ⟨rfl, rfl⟩ := hy
      exact ⟨Grow.refl ia _, R, .int _⟩
    · cases e'
  | enm w =>
    obtain ⟨a, q, hl, hJ⟩ := r
    subst hJ
    have e' : (match seqL w h with
      | some xs => (match xs[i]? with
        | some x => some (some (Val.tup [.int i, x]))
        | none => some none)
      | none => none) = some (some v) := e
    split at e'
    · rename_i xs e1
      obtain ⟨b, ys, eb, hs, rs⟩ := seqL_ok R e1 q
      cases eb
      split at e'
      · rename_i x0 e0
        cases e'
        obtain ⟨y, e2, ry⟩ := rs.get e0
        refine ⟨⟨ys, y, hs, e2⟩, fun x H' hy => ?_⟩
        obtain ⟨T, x1, rfl, hT, rfl, hy⟩ := hy
        have ex := hy ys hs
        rw [e2] at ex
        cases ex
        obtain ⟨R', g⟩ := R.tupNew (ys := [.int (i : Nat), y]) hT
        have q2 := RV.stay (ka := []) (Hold.newT (o := .tup [.int (i : Nat), y]) hT) ry
        rw [app_nil] at q2
        exact ⟨g, R', .tup upd_same (.cons (.int _) (.cons q2 .nil))⟩
      · cases e'
    · cases e'
  | zp w u =>
    obtain ⟨a, b, q, qb, hl, hl2, hJ⟩ := r
    subst hJ
    have e' : (match seqL w h, seqL u h with
      | some xs, some ys => (match xs[i]?, ys[i]? with
        | some x, some y => some (some (Val.tup [x, y]))
        | _, _ => some none)
      | _, _ => none) = some (some v) := e
    split at e'
    · rename_i xs zs e1 e1'
      obtain ⟨c, ys, eb, hs, rs⟩ := seqL_ok R e1 q
      cases eb
      obtain ⟨c2, ys2, eb2, hs2, rs2⟩ := seqL_ok R e1' qb
      cases eb2
      split at e'
      · rename_i x0 y0 e0 e0'
        cases e'
        obtain ⟨y, e2, ry⟩ := rs.get e0
        obtain ⟨y2, e22, ry2⟩ := rs2.get e0'
        refine ⟨⟨ys, ys2, y, y2, hs, hs2, e2, e22⟩, fun x H' hy => ?_⟩
        obtain ⟨T, x1, x2, rfl, hT, rfl, hy, hy2⟩ := hy
        have ex := hy ys hs
        rw [e2] at ex
        cases ex
        have ex2 := hy2 ys2 hs2
        rw [e22] at ex2
        cases ex2
        obtain ⟨R', g⟩ := R.tupNew (ys := [y, y2]) hT
        have q1 := RV.stay (ka := []) (Hold.newT (o := .tup [y, y2]) hT) ry
        have q2 := RV.stay (ka := []) (Hold.newT (o := .tup [y, y2]) hT) ry2
        rw [app_nil] at q1 q2
        exact ⟨g, R', .tup upd_same (.cons q1 (.cons q2 .nil))⟩
      · cases e'
    · cases e'
  | chr x =>
    cases r
    have e' : (match x.cps[i]? with
      | some c => some (some (Val.str ⟨#[c]⟩))
      | none => some none) = some (some v) := e
    split at e'
    · rename_i c ec
      cases e'
      refine ⟨(Array.getElem?_eq_some_iff.mp ec).1, fun y H' hy => ?_⟩
      obtain ⟨rfl, c', e1, rfl⟩ := hy
      rw [ec] at e1
      cases e1
      exact ⟨Grow.refl ia _, R, .str _⟩
    · cases e'
  | zt w u =>
    obtain ⟨a, b, q, qb, hl, hl2, hJ⟩ := r
    subst hJ
    have e' : (match seqT w, seqT u with
      | some xs, some ys => (match xs[i]?, ys[i]? with
        | some x, some y => some (some (Val.tup [x, y]))
        | _, _ => some none)
      | _, _ => none) = some (some v) := e
    split at e'
    · rename_i xs zs e1 e1'
      obtain ⟨c, ys, eb, hs, rs⟩ := seqT_ok e1 q
      cases eb
      obtain ⟨c2, ys2, eb2, hs2, rs2⟩ := seqT_ok e1' qb
      cases eb2
      split at e'
      · rename_i x0 y0 e0 e0'
        cases e'
        obtain ⟨y, e2, ry⟩ := rs.get e0
        obtain ⟨y2, e22, ry2⟩ := rs2.get e0'
        refine ⟨⟨ys, ys2, y, y2, hs, hs2, e2, e22⟩, fun x H' hy => ?_⟩
        obtain ⟨T, x1, x2, rfl, hT, rfl, hy, hy2⟩ := hy
        have ex := hy ys hs
        rw [e2] at ex
        cases ex
        have ex2 := hy2 ys2 hs2
        rw [e22] at ex2
        cases ex2
        obtain ⟨R', g⟩ := R.tupNew (ys := [y, y2]) hT
        have q1 := RV.stay (ka := []) (Hold.newT (o := .tup [y, y2]) hT) ry
        have q2 := RV.stay (ka := []) (Hold.newT (o := .tup [y, y2]) hT) ry2
        rw [app_nil] at q1 q2
        exact ⟨g, R', .tup upd_same (.cons q1 (.cons q2 .nil))⟩
      · cases e'
    · cases e'
theorem none_le {xs : List Val} {ys : List V} (r : RVs K ia H xs ys) (e : xs[i]? = none) : ys.length ≤ i := by
  rw [← r.len]
  exact List.getElem?_eq_none_iff.mp e
theorem item_stop (R : Rep K ca ia H h) (r : SrcR K ia H s J) (e : item s i h = some none) : J.stop i H := by
  cases s with
  | seq w =>
    obtain ⟨a, q, ⟨hl, hJ⟩ | ⟨ht, hJ⟩⟩ := r
    · subst hJ
      have e' : (match seqL w h with
        | some xs => some xs[i]?
        | none => match seqT w with
          | some xs => some xs[i]?
          | none => none) = some none := e
      rw [isL_some hl] at e'
      split at e'
      · rename_i xs e1
        obtain ⟨b, ys, eb, hs, rs⟩ := seqL_ok R e1 q
        cases eb
        exact ⟨ys, hs, none_le rs (Option.some.inj e')⟩
      · cases e'
    · subst hJ
      obtain ⟨h1, xs, h2⟩ := isT_some (h := h) ht
      have e' : (match seqL w h with
        | some xs => some xs[i]?
        | none => match seqT w with
          | some xs => some xs[i]?
          | none => none) = some none := e
      rw [h1, h2] at e'
      obtain ⟨b, ys, eb, hs, rs⟩ := seqT_ok h2 q
      cases eb
      exact ⟨ys, hs, none_le rs (Option.some.inj e')⟩
  | rng lo n =>
    cases r
    have e' : (if i < n then some (some (Val.int (lo + i))) else some none) = some none := e
    split at e'
    · cases e'
    · rename_i hi
      exact Nat.le_of_not_lt hi
  | enm w =>
    obtain ⟨a, q, hl, hJ⟩ := r
    subst hJ
    have e' : (match seqL w h with
      | some xs => (match xs[i]? with
        | some x => some (some (Val.tup [.int i, x]))
        | none => some none)
      | none => none) = some none := e
    split at e'
    · rename_i xs e1
      obtain ⟨b, ys, eb, hs, rs⟩ := seqL_ok R e1 q
      cases eb
      split at e'
      · cases e'
      · rename_i e0
        exact ⟨ys, hs, none_le rs e0⟩
    · cases e'
  | zp w u =>
    obtain ⟨a, b, q, qb, hl, hl2, hJ⟩ := r
    subst hJ
    have e' : (match seqL w h, seqL u h with
      | some xs, some ys => (match xs[i]?, ys[i]? with
        | some x, some y => some (some (Val.tup [x, y]))
        | _, _ => some none)
      | _, _ => none) = some none := e
    split at e'
    · rename_i xs zs e1 e1'
      obtain ⟨c, ys, eb, hs, rs⟩ := seqL_ok R e1 q
      cases eb
      obtain ⟨c2, ys2, eb2, hs2, rs2⟩ := seqL_ok R e1' qb
      cases eb2
      split at e'
      · cases e'
      · rename_i hno
        refine ⟨ys, ys2, hs, hs2, ?_⟩
        cases z : xs[i]? with
        | none => exact .inl (none_le rs z)
        | some x =>
          cases z2 : zs[i]? with
          | none => exact .inr (none_le rs2 z2)
          | some y => exact absurd z2 (hno x y z)
    · cases e'
  | chr x =>
    cases r
    have e' : (match x.cps[i]? with
      | some c => some (some (Val.str ⟨#[c]⟩))
      | none => some none) = some none := e
    split at e'
    · cases e'
    · rename_i ec
      exact Array.getElem?_eq_none_iff.mp ec
  | zt w u =>
    obtain ⟨a, b, q, qb, hl, hl2, hJ⟩ := r
    subst hJ
    have e' : (match seqT w, seqT u with
      | some xs, some ys => (match xs[i]?, ys[i]? with
        | some x, some y => some (some (Val.tup [x, y]))
        | _, _ => some none)
      | _, _ => none) = some none := e
    split at e'
    · rename_i xs zs e1 e1'
      obtain ⟨c, ys, eb, hs, rs⟩ := seqT_ok e1 q
      cases eb
      obtain ⟨c2, ys2, eb2, hs2, rs2⟩ := seqT_ok e1' qb
      cases eb2
      split at e'
      · cases e'
      · rename_i hno
        refine ⟨ys, ys2, hs, hs2, ?_⟩
        cases z : xs[i]? with
        | none => exact .inl (none_le rs z)
        | some x =>
          cases z2 : zs[i]? with
          | none => exact .inr (none_le rs2 z2)
          | some y => exact absurd z2 (hno x y z)
    · cases e'
end
/-! ### a source is made -/
section
variable (K : PySem.W.Frag) (ca : CaT)
def WantI (ia : List Addr) (H : Hp) (r : Res Src) (Q : It → Hp → Prop) (E : XK) : Prop := match r with
  | .ok s h' => ∀ (ka : List Addr) (H' : Hp) (J : It), Grow ia H ka H' → Rep K ca (ia ++ ka) H' h' → SrcR K (ia ++ ka) H' s J → Q J H'
  | .exc c v h' => ∀ (ka : List Addr) (H' : Hp) (d : Addr) (w : V), Grow ia H ka H' → Rep K ca (ia ++ ka) H' h' → H' d = some (.xd [("value", w)]) → RV K (ia ++ ka) H' v w → E (.ref (ca c)) (some d) H'
  | .bad => False
def tSrc (W : WS) (m : M Src) : TI := fun st H R => ∃ (ia : List Addr) (sl : LS) (h : LH), Rep K ca ia H h ∧ RS K ia H sl st ∧ WantI K ca ia H (m sl h) R (fun c d H' => W c d st H')
end
/-- the source of the values -/
def srcM (k : Nat) (m : M (List Val)) : M Src := fun sl h => (m sl h).bind fun vs h1 => match mkSrc k vs h1 with
  | some s => .ok s h1
  | none => .bad
section
variable {X : Cx} {ca : CaT} {W : WS}
theorem WantI.now {K : PySem.W.Frag} {ia : List Addr} {H : Hp} {h : LH} {s : Src} {J : It} {Q : It → Hp → Prop} {E : XK} (w : WantI K ca ia H (.ok s h) Q E) (R : Rep K ca ia H h) (r : SrcR K ia H s J) : Q J H :=
  w [] H J (Grow.refl ia H) (by rw [app_nil]; exact R) (by rw [app_nil]; exact r)
theorem WantI.shift {K : PySem.W.Frag} {ia ka : List Addr} {H H1 : Hp} {r : Res Src} {Q : It → Hp → Prop} {E : XK} (w : WantI K ca ia H r Q E) (g : Grow ia H ka H1) : WantI K ca (ia ++ ka) H1 r Q E := by
  cases r with
  | bad => exact w
  | ok v h' =>
    intro la H' y g2 R r
    rw [List.append_assoc] at R r
    exact w (ka ++ la) H' y (g.trans g2) R r
  | exc c v h' =>
    intro la H' d y g2 R hd r
    rw [List.append_assoc] at R r
    exact w (ka ++ la) H' d y (g.trans g2) R hd r
/-- the source's parts, then the source -/
theorem tSrc.parts {k : Nat} {m : M (List Val)} {st : L2.St} {H : Hp} {R : It → Hp → Prop} (t : tSrc X.K ca W (srcM k m) st H R) :
    tOfL X.K ca W m st H (fun xs H1 => ∃ (ia : List Addr) (h : LH) (vs : List Val) (s : Src), Rep X.K ca ia H1 h ∧ RVs X.K ia H1 vs xs ∧ mkSrc k vs h = some s ∧ ∀ J, SrcR X.K ia H1 s J → R J H1) := by
  obtain ⟨ia, sl, h, Re, S, w⟩ := t
  refine ⟨ia, sl, h, Re, S, .nil, ?_⟩
  unfold srcM at w
  cases e : m sl h with
  | bad => rw [e] at w; exact w
  | exc c v h' => rw [e] at w; exact w
  | ok vs h1 =>
    rw [e] at w
    intro ka H1 xs g R1 r1
    have w' : WantI X.K ca ia H (match mkSrc k vs h1 with
      | some s => .ok s h1
      | none => .bad) R (fun c d H' => W c d st H') := w
    split at w'
    · rename_i s es
      exact ⟨ia ++ ka, h1, vs, s, R1, r1, es, fun J hJ => (WantI.shift w' g).now R1 hJ⟩
    · exact (show False from w').elim
theorem pi_seq {tg l : Expr} {tl : TE} (hl : PE X l tl) : PI X tg l (fun st H R => tl st H fun x H1 => (∃ a, x = .ref a ∧ ((∃ xs, SqL X.K H1 a xs) ∧ R (Itl X.K a) H1 ∨ (∃ xs, SqT X.K H1 a xs) ∧ R (Itt X.K a) H1)) ∨ ∃ z, x = .str z ∧ R (Its z) H1) := by
  refine ⟨fun pins s st H R I h => ?_⟩
  refine thn (hl.run pins s st H _ I h) fun v s1 ⟨x, H1, I1, r1, q1⟩ => ?_
  obtain ⟨a, e, ⟨⟨xs, hq⟩, q⟩ | ⟨⟨xs, hq⟩, q⟩⟩ | ⟨z, e, q⟩ := q1
  · subst e
    cases r1
    obtain ⟨its, rv, p, hz⟩ := I1.list hq
    refine wpAny_pyIter_list p.isList ?_
    refine ⟨s1.heap.objs.size, [s1.heap.objs.size], _, _, H1, rfl, I1.kept (t' := s1.toks) fun b o e => Heap.get?_push_of_some _ e, turn_list a _, ⟨_, Heap.get?_push_size _ rfl, rfl, rfl⟩, fun b hb => ?_, q⟩
    have e : b = s1.heap.objs.size := by simpa using hb
    subst e
    exact I1.fpOk (Nat.le_refl _) (I1.hok.fresh (Nat.le_refl _))
  · subst e
    cases r1
    obtain ⟨its, rv, p, hz⟩ := I1.tuple hq
    refine wpAny_pyIter_tuple (show s1.heap.IsTuple a its.toArray from p) ?_
    refine ⟨s1.heap.objs.size, [s1.heap.objs.size], _, _, H1, rfl, I1.kept (t' := s1.toks) fun b o e => Heap.get?_push_of_some _ e, turn_tuple a _, ⟨_, Heap.get?_push_size _ rfl, rfl, rfl⟩, fun b hb => ?_, q⟩
    have e : b = s1.heap.objs.size := by simpa using hb
    subst e
    exact I1.fpOk (Nat.le_refl _) (I1.hok.fresh (Nat.le_refl _))
  · subst e
    obtain ⟨t, rfl⟩ := r1
    cases hw : z.cps.all (· < 128)
    · exact wpAny_pyIter_wide hw (pi_one (tk := s1.toks) I1 _ (turn_str _ z t "str_iterator" (.inr rfl)) ⟨_, Heap.get?_push_size _ rfl, rfl, rfl⟩ q)
    · exact wpAny_pyIter_ascii hw (pi_one (tk := s1.toks) I1 _ (turn_str _ z t "str_ascii_iterator" (.inl rfl)) ⟨_, Heap.get?_push_size _ rfl, rfl, rfl⟩ q)
end
end Mi

set_option Elab.async false
set_option linter.all false
set_option maxRecDepth 100000
set_option maxHeartbeats 1000000
/-! D9: blocks, targets, loops, comprehensions, by their readings. -/
namespace Mi
open PySem L2 PyProof.Rows
section
variable (K : PySem.W.Frag) (ca : CaT)
def WantS (ia : List Addr) (H : Hp) (r : RsS) (D : Ends) (W : WS) : Prop := match r with
  | .nx sl h' => ∀ (ka : List Addr) (H' : Hp) (st : L2.St), Grow ia H ka H' → Rep K ca (ia ++ ka) H' h' → RS K (ia ++ ka) H' sl st → D.nx st H'
  | .rt v h' => ∀ (ka : List Addr) (H' : Hp) (w : V), Grow ia H ka H' → Rep K ca (ia ++ ka) H' h' → RV K (ia ++ ka) H' v w → D.rt w H'
  | .bk sl h' => ∀ (ka : List Addr) (H' : Hp) (st : L2.St), Grow ia H ka H' → Rep K ca (ia ++ ka) H' h' → RS K (ia ++ ka) H' sl st → D.bk st H'
  | .ct sl h' => ∀ (ka : List Addr) (H' : Hp) (st : L2.St), Grow ia H ka H' → Rep K ca (ia ++ ka) H' h' → RS K (ia ++ ka) H' sl st → D.ct st H'
  | .exc c v sl h' => ∀ (ka : List Addr) (H' : Hp) (d : Addr) (w : V) (st : L2.St), Grow ia H ka H' → Rep K ca (ia ++ ka) H' h' → H' d = some (.xd [("value", w)]) → RV K (ia ++ ka) H' v w → RS K (ia ++ ka) H' sl st → W (.ref (ca c)) (some d) st H'
  | .bad => False
abbrev MS := LS → LH → RsS
def tS (W : WS) (m : MS) : TS := fun D st H => ∃ (ia : List Addr) (sl : LS) (h : LH), Rep K ca ia H h ∧ RS K ia H sl st ∧ WantS K ca ia H (m sl h) D W
end
section
variable {K : PySem.W.Frag} {ca : CaT} {ia ka : List Addr} {H H1 : Hp} {h : LH} {W : WS} {st : L2.St} {D : Ends}
theorem WantS.shift {r : RsS} (w : WantS K ca ia H r D W) (g : Grow ia H ka H1) : WantS K ca (ia ++ ka) H1 r D W := by
  cases r with
  | bad => exact w
  | nx sl h' => intro la H' y g2 R r; rw [List.append_assoc] at R r; exact w (ka ++ la) H' y (g.trans g2) R r
  | rt sl h' => intro la H' y g2 R r; rw [List.append_assoc] at R r; exact w (ka ++ la) H' y (g.trans g2) R r
  | bk sl h' => intro la H' y g2 R r; rw [List.append_assoc] at R r; exact w (ka ++ la) H' y (g.trans g2) R r
  | ct sl h' => intro la H' y g2 R r; rw [List.append_assoc] at R r; exact w (ka ++ la) H' y (g.trans g2) R r
  | exc c v sl h' => intro la H' d y s2 g2 R hd r q; rw [List.append_assoc] at R r q; exact w (ka ++ la) H' d y s2 (g.trans g2) R hd r q
theorem WantS.nxNow {sl : LS} (w : WantS K ca ia H (.nx sl h) D W) (R : Rep K ca ia H h) (S : RS K ia H sl st) : D.nx st H :=
  w [] H st (Grow.refl ia H) (by rw [app_nil]; exact R) (by rw [app_nil]; exact S)
/-- an expression, then what follows -/
theorem tS.ofR {m : M Val} {f : Val → MS} (t : tS K ca W (fun sl h => ofR (m sl h) sl fun v h1 => f v sl h1) D st H) :
    tOf K ca W m st H (fun x H1 => ∃ (ia : List Addr) (sl : LS) (h : LH) (v : Val), Rep K ca ia H1 h ∧ RS K ia H1 sl st ∧ RV K ia H1 v x ∧ WantS K ca ia H1 (f v sl h) D W) := by
  obtain ⟨ia, sl, h, R, S, w⟩ := t
  refine ⟨ia, sl, h, R, S, .nil, ?_⟩
  dsimp only at w
  cases e : m sl h with
  | bad => rw [e] at w; exact w
  | exc c v h' =>
    rw [e] at w
    exact fun ka H' d y g R' hd r => w ka H' d y st g R' hd r (S.grow g R)
  | ok v h1 =>
    rw [e] at w
    exact fun ka H1 x g R1 r1 => ⟨ia ++ ka, sl, h1, v, R1, S.grow g R, r1, WantS.shift w g⟩
theorem tS.ofRB {m : M Bool} {f : Bool → MS} (t : tS K ca W (fun sl h => ofRB (m sl h) sl fun v h1 => f v sl h1) D st H) :
    tOfB K ca W m st H (fun b H1 => tS K ca W (f b) D st H1) := by
  obtain ⟨ia, sl, h, R, S, w⟩ := t
  refine ⟨ia, sl, h, R, S, .nil, ?_⟩
  dsimp only at w
  cases e : m sl h with
  | bad => rw [e] at w; exact w
  | exc c v h' =>
    rw [e] at w
    exact fun ka H' d y g R' hd r => w ka H' d y st g R' hd r (S.grow g R)
  | ok v h1 =>
    rw [e] at w
    exact fun ka H1 g R1 => ⟨ia ++ ka, sl, h1, R1, S.grow g R, WantS.shift w g⟩
/-- one statement, then the rest -/
theorem tS.seq {m m2 : MS} (t : tS K ca W (fun sl h => match m sl h with
    | .nx sl1 h1 => m2 sl1 h1
    | x => x) D st H) : tS K ca W m { D with nx := tS K ca W m2 D } st H := by
  obtain ⟨ia, sl, h, R, S, w⟩ := t
  refine ⟨ia, sl, h, R, S, ?_⟩
  dsimp only at w
  cases e : m sl h with
  | bad => rw [e] at w; exact w
  | exc c v sl' h' => rw [e] at w; exact w
  | rt v h' => rw [e] at w; exact w
  | bk v h' => rw [e] at w; exact w
  | ct v h' => rw [e] at w; exact w
  | nx sl1 h1 =>
    rw [e] at w
    exact fun ka H1 st1 g R1 S1 => ⟨ia ++ ka, sl1, h1, R1, S1, WantS.shift w g⟩
end
/-! ### targets -/
mutual
def slots : ITg → List Nat
  | .nm i => [i]
  | .tp ts => slotsL ts
def slotsL : List ITg → List Nat
  | [] => []
  | t :: ts => slots t ++ slotsL ts
end
/-- alike but at some slots -/
structure Agr (S : List Nat) (st st' : L2.St) : Prop where
  len : st'.length = st.length
  at_ : ∀ j : Nat, j ∉ S → st'[j]? = st[j]?
theorem Agr.refl (S : List Nat) (st : L2.St) : Agr S st st := ⟨rfl, fun _ _ => rfl⟩
theorem Agr.trans {S T : List Nat} {a b c : L2.St} (x : Agr S a b) (y : Agr T b c) : Agr (S ++ T) a c :=
  ⟨y.len.trans x.len, fun j h => (y.at_ j fun z => h (List.mem_append_right _ z)).trans (x.at_ j fun z => h (List.mem_append_left _ z))⟩
def gB (K : PySem.W.Frag) (ca : CaT) (tg : ITg) : TG := fun x st H Q => ∃ (ia : List Addr) (sl : LS) (h : LH) (v : Val) (sl' : LS), Rep K ca ia H h ∧ RS K ia H sl st ∧ RV K ia H v x ∧ bindT tg v sl = some sl' ∧
  ∀ st', RS K ia H sl' st' → Agr (slots tg) st st' → Q st' H
def gBs (K : PySem.W.Frag) (ca : CaT) (tgs : List ITg) : TGs := fun xs st H Q => ∃ (ia : List Addr) (sl : LS) (h : LH) (vs : List Val) (sl' : LS), Rep K ca ia H h ∧ RS K ia H sl st ∧ RVs K ia H vs xs ∧ bindTs tgs vs sl = some sl' ∧
  ∀ st', RS K ia H sl' st' → Agr (slotsL tgs) st st' → Q st' H
section
variable {X : Cx} {ca : CaT}
theorem pg_imp {e : Expr} {t t' : TG} (h : PG X e t) (k : ∀ v st H Q, t' v st H Q → t v st H Q) : PG X e t' := ⟨fun pins s st H v u Q I r q => h.run pins s st H v u Q I r (k v st H Q q)⟩
theorem pgs_imp {e : List Expr} {t t' : TGs} (h : PGs X e t) (k : ∀ v st H Q, t' v st H Q → t v st H Q) : PGs X e t' := ⟨fun pins s st H v u Q I r q => h.run pins s st H v u Q I r (k v st H Q q)⟩
theorem gB_nm {i : Nat} {x : V} {st : L2.St} {H : Hp} {Q : L2.St → Hp → Prop} (t : gB X.K ca (.nm i) x st H Q) : gName i x st H Q := by
  obtain ⟨ia, sl, h, v, sl', R, S, r, e, q⟩ := t
  have e' : some (sl.set i (some v)) = some sl' := e
  cases e'
  refine q _ (S.set r) ⟨by simp, fun j hj => ?_⟩
  have ne : i ≠ j := fun z => hj (by simp [slots, z])
  exact List.getElem?_set_ne ne
theorem gBs_nil {xs : List V} {st : L2.St} {H : Hp} {Q : L2.St → Hp → Prop} (t : gBs X.K ca [] xs st H Q) : gNil xs st H Q := by
  obtain ⟨ia, sl, h, vs, sl', R, S, r, e, q⟩ := t
  cases r with
  | nil =>
    have e' : some sl = some sl' := e
    cases e'
    exact ⟨rfl, q st S (Agr.refl _ _)⟩
  | cons a b => cases e
theorem gBs_cons {t : ITg} {ts : List ITg} {xs : List V} {st : L2.St} {H : Hp} {Q : L2.St → Hp → Prop} (g : gBs X.K ca (t :: ts) xs st H Q) : gCons (gB X.K ca t) (gBs X.K ca ts) xs st H Q := by
  obtain ⟨ia, sl, h, vs, sl', R, S, r, e, q⟩ := g
  cases r with
  | nil => cases e
  | @cons v vs x xs r rs =>
    have e' : (match bindT t v sl with
      | some sl1 => bindTs ts vs sl1
      | none => none) = some sl' := e
    split at e'
    · rename_i sl1 e1
      exact ⟨x, xs, rfl, ia, sl, h, v, sl1, R, S, r, e1, fun st1 S1 a1 => ⟨ia, sl1, h, vs, sl', R, S1, rs, e', fun st2 S2 a2 => q st2 S2 (a1.trans a2)⟩⟩
    · cases e'
theorem gB_tp {ts : List ITg} {n : Nat} {x : V} {st : L2.St} {H : Hp} {Q : L2.St → Hp → Prop} (hn : ts.length = n) (t : gB X.K ca (.tp ts) x st H Q) : gTup X.K n (gBs X.K ca ts) x st H Q := by
  obtain ⟨ia, sl, h, v, sl', R, S, r, e, q⟩ := t
  have e' : (match seqT v with
    | some xs => bindTs ts xs sl
    | none => none) = some sl' := e
  split at e'
  · rename_i xs ex
    obtain ⟨a, ys, rfl, hs, rs⟩ := seqT_ok ex r
    have hl : ∀ (ts : List ITg) (xs : List Val) (sl : LS), bindTs ts xs sl = some sl' → xs.length = ts.length := by
      intro ts
      induction ts with
      | nil => intro xs sl e; cases xs with
        | nil => rfl
        | cons _ _ => cases e
      | cons t ts ih =>
        intro xs sl e
        cases xs with
        | nil => cases e
        | cons v vs =>
          have e2 : (match bindT t v sl with
            | some sl1 => bindTs ts vs sl1
            | none => none) = some sl' := e
          split at e2
          · simp [ih _ _ e2]
          · cases e2
    exact ⟨a, ys, rfl, hs, by rw [← rs.len, hl _ _ _ e', hn], ia, sl, h, xs, sl', R, S, rs, e', fun st' S' a' => q st' S' a'⟩
  · cases e'
end
/-! ### for -/
section
variable {K : PySem.W.Frag} {ca : CaT} {W : WS} {G : Prg}
theorem for_read {n d : Nat} {tg : ITg} {k : Nat} {es : List IE} {ib : List IS} {D : Ends} {st : L2.St} {H : Hp} (mS : M (List Val))
    (t : tS K ca W (fun sl h => ofRL (mS sl h) sl fun vs h1 => match mkSrc k vs h1 with
      | some s => (run G n).f d tg ib s 0 sl h1
      | none => .bad) D st H) :
    tFor (tSrc K ca W (srcM k mS)) (gB K ca tg) (fun D st H => ∃ m, m ≤ n ∧ tS K ca W ((run G m).s d ib) D st H) D st H := by
  obtain ⟨ia, sl, h, R, S, w⟩ := t
  refine ⟨ia, sl, h, R, S, ?_⟩
  dsimp only at w
  unfold srcM
  cases e : mS sl h with
  | bad => rw [e] at w; exact w
  | exc c v h' =>
    rw [e] at w
    exact fun ka H' d y g R' hd r => w ka H' d y st g R' hd r (S.grow g R)
  | ok vs h1 =>
    rw [e] at w
    have w' : WantS K ca ia H (match mkSrc k vs h1 with
      | some s => (run G n).f d tg ib s 0 sl h1
      | none => .bad) D W := w
    show WantI K ca ia H (match mkSrc k vs h1 with
      | some s => Res.ok s h1
      | none => .bad) _ _
    cases es : mkSrc k vs h1 with
    | none => rw [es] at w'; exact w'
    | some src =>
      rw [es] at w'
      intro ka H1 J g R1 sr
      refine ⟨fun i m st H => m ≤ n ∧ ∃ (ia : List Addr) (sl : LS) (h : LH), Rep K ca ia H h ∧ RS K ia H sl st ∧ SrcR K ia H src J ∧ WantS K ca ia H ((run G m).f d tg ib src i sl h) D W, ⟨n, Nat.le_refl n, ia ++ ka, sl, h1, R1, S.grow g R, sr, WantS.shift w' g⟩, ?_⟩
      rintro i m st2 H2 ⟨hm, ia2, sl2, h2, R2, S2, sr2, w2⟩
      cases m with
      | zero => exact (show False from w2).elim
      | succ m =>
        have w3 : WantS K ca ia2 H2 (match item src i h2 with
          | none => .bad
          | some none => .nx sl2 h2
          | some (some v) => (match bindT tg v sl2 with
            | none => .bad
            | some sl1 => (match (run G m).s d ib sl1 h2 with
              | .nx sl2 h2 => (run G m).f d tg ib src (i + 1) sl2 h2
              | .ct sl2 h2 => (run G m).f d tg ib src (i + 1) sl2 h2
              | .bk sl2 h2 => .nx sl2 h2
              | x => x))) D W := w2
        cases ei : item src i h2 with
        | none => rw [ei] at w3; exact (show False from w3).elim
        | some o =>
          cases o with
          | none =>
            rw [ei] at w3
            exact .inl ⟨item_stop R2 sr2 ei, WantS.nxNow w3 R2 S2⟩
          | some v =>
            rw [ei] at w3
            obtain ⟨hgo, hy⟩ := item_go R2 sr2 ei
            refine .inr ⟨hgo, fun st' H' => ∃ (ia : List Addr) (sl : LS) (h : LH), Rep K ca ia H' h ∧ RS K ia H' sl st' ∧ SrcR K ia H' src J ∧ WantS K ca ia H' ((run G m).f d tg ib src (i + 1) sl h) D W,
              fun st' H' ⟨ia', sl', h', a, b, c, q⟩ => ⟨m, Nat.lt_succ_self m, Nat.le_of_succ_le hm, ia', sl', h', a, b, c, q⟩, fun x H' yl => ?_⟩
            obtain ⟨g3, R3, r3⟩ := hy x H' yl
            have w4 : WantS K ca ia2 H2 (match bindT tg v sl2 with
              | none => .bad
              | some sl1 => (match (run G m).s d ib sl1 h2 with
                | .nx sl2 h2 => (run G m).f d tg ib src (i + 1) sl2 h2
                | .ct sl2 h2 => (run G m).f d tg ib src (i + 1) sl2 h2
                | .bk sl2 h2 => .nx sl2 h2
                | x => x)) D W := w3
            cases eb : bindT tg v sl2 with
            | none => rw [eb] at w4; exact (show False from w4).elim
            | some sl1 =>
              rw [eb] at w4
              have S3 := S2.grow g3 R2
              have sr3 : SrcR K (ia2 ++ []) H' src J := sr2.stay (g3.hold R2)
              rw [app_nil] at S3 sr3
              refine ⟨ia2, sl2, h2, v, sl1, R3, S3, r3, eb, fun st3 S4 _ => ⟨m, Nat.le_of_succ_le hm, ia2, sl1, h2, R3, S4, ?_⟩⟩
              have w5 : WantS K ca ia2 H2 (match (run G m).s d ib sl1 h2 with
                | .nx sl2 h2 => (run G m).f d tg ib src (i + 1) sl2 h2
                | .ct sl2 h2 => (run G m).f d tg ib src (i + 1) sl2 h2
                | .bk sl2 h2 => .nx sl2 h2
                | x => x) D W := w4
              have w6 := WantS.shift w5 g3
              rw [app_nil] at w6
              cases er : (run G m).s d ib sl1 h2 with
              | bad => rw [er] at w6; exact w6
              | exc c v' sl' h' => rw [er] at w6; exact w6
              | rt v' h' => rw [er] at w6; exact w6
              | bk sl' h' => rw [er] at w6; exact w6
              | ct sl' h' =>
                rw [er] at w6
                exact fun la H4 st4 g4 R4 S5 => ⟨ia2 ++ la, sl', h', R4, S5, sr3.stay (g4.hold R3), WantS.shift w6 g4⟩
              | nx sl' h' =>
                rw [er] at w6
                exact fun la H4 st4 g4 R4 S5 => ⟨ia2 ++ la, sl', h', R4, S5, sr3.stay (g4.hold R3), WantS.shift w6 g4⟩
/-! ### while -/
theorem while_read {n d : Nat} {c : IE} {ib : List IS} {D : Ends} {st : L2.St} {H : Hp} (t : tS K ca W (fun sl h => (run G n).w d c ib sl h) D st H) :
    tWhile (fun st H Q => ∃ m, m ≤ n ∧ tOfB K ca W ((run G m).t d c) st H Q) (fun D st H => ∃ m, m ≤ n ∧ tS K ca W ((run G m).s d ib) D st H) D st H := by
  refine ⟨fun m st H => m ≤ n ∧ tS K ca W (fun sl h => (run G m).w d c ib sl h) D st H, ⟨n, Nat.le_refl n, t⟩, ?_⟩
  rintro m st2 H2 ⟨hm, ia2, sl2, h2, R2, S2, w2⟩
  cases m with
  | zero => exact (show False from w2).elim
  | succ m =>
    have w3 : WantS K ca ia2 H2 (ofRB ((run G m).t d c sl2 h2) sl2 fun x h1 => match x with
      | false => .nx sl2 h1
      | true => (match (run G m).s d ib sl2 h1 with
        | .nx sl2 h2 => (run G m).w d c ib sl2 h2
        | .ct sl2 h2 => (run G m).w d c ib sl2 h2
        | .bk sl2 h2 => .nx sl2 h2
        | x => x)) D W := w2
    refine ⟨m, Nat.le_of_succ_le hm, ia2, sl2, h2, R2, S2, .nil, ?_⟩
    cases e : (run G m).t d c sl2 h2 with
    | bad => rw [e] at w3; exact w3
    | exc cc v h' =>
      rw [e] at w3
      exact fun ka H' d y g R' hd r => w3 ka H' d y st2 g R' hd r (S2.grow g R2)
    | ok b h1 =>
      rw [e] at w3
      intro ka H1 g R1
      cases b with
      | false =>
        rw [if_neg Bool.false_ne_true]
        exact w3 ka H1 st2 g R1 (S2.grow g R2)
      | true =>
        rw [if_pos rfl]
        have w4 : WantS K ca ia2 H2 (match (run G m).s d ib sl2 h1 with
          | .nx sl2 h2 => (run G m).w d c ib sl2 h2
          | .ct sl2 h2 => (run G m).w d c ib sl2 h2
          | .bk sl2 h2 => .nx sl2 h2
          | x => x) D W := w3
        have w5 := WantS.shift w4 g
        refine ⟨tS K ca W (fun sl h => (run G m).w d c ib sl h) D, fun st' H' q => ⟨m, Nat.lt_succ_self m, Nat.le_of_succ_le hm, q⟩, m, Nat.le_of_succ_le hm, ia2 ++ ka, sl2, h1, R1, S2.grow g R2, ?_⟩
        cases er : (run G m).s d ib sl2 h1 with
        | bad => rw [er] at w5; exact w5
        | exc c v' sl' h' => rw [er] at w5; exact w5
        | rt v' h' => rw [er] at w5; exact w5
        | bk sl' h' => rw [er] at w5; exact w5
        | ct sl' h' =>
          rw [er] at w5
          exact fun la H4 st4 g4 R4 S5 => ⟨(ia2 ++ ka) ++ la, sl', h', R4, S5, WantS.shift w5 g4⟩
        | nx sl' h' =>
          rw [er] at w5
          exact fun la H4 st4 g4 R4 S5 => ⟨(ia2 ++ ka) ++ la, sl', h', R4, S5, WantS.shift w5 g4⟩
end
end Mi

set_option Elab.async false
set_option linter.all false
set_option maxRecDepth 100000
set_option maxHeartbeats 1000000
/-! D10: a list comprehension by its reading. -/
namespace Mi
open PySem L2 PyProof.Rows
abbrev W0 : WS := fun _ _ _ _ => False
theorem wipeL_length (sl : LS) : ∀ vs : List Nat, (wipeL sl vs).length = sl.length
  | [] => rfl
  | v :: vs => by unfold wipeL; rw [List.length_set, wipeL_length sl vs]
theorem wipe_at {st : L2.St} {j : Nat} : ∀ {vs : List Nat}, (wipe st vs)[j]? = if j ∈ vs then (if j < st.length then some none else none) else st[j]?
  | [] => by simp [wipe]
  | v :: vs => by
    unfold wipe
    by_cases hv : v = j
    · subst hv
      rw [if_pos List.mem_cons_self]
      by_cases hl : v < (wipe st vs).length
      · rw [List.getElem?_set_self hl, if_pos (by rw [← wipe_length st vs]; exact hl)]
      · rw [List.getElem?_eq_none (by simpa using hl), if_neg (by rw [← wipe_length st vs]; exact hl)]
    · rw [List.getElem?_set_ne hv, wipe_at (vs := vs)]
      by_cases hm : j ∈ vs
      · rw [if_pos hm, if_pos (List.mem_cons_of_mem _ hm)]
      · rw [if_neg hm, if_neg (fun z => by
          rcases List.mem_cons.mp z with z | z
          · exact hv z.symm
          · exact hm z)]
theorem wipeL_at {st : LS} {j : Nat} : ∀ {vs : List Nat}, (wipeL st vs)[j]? = if j ∈ vs then (if j < st.length then some none else none) else st[j]?
  | [] => by simp [wipeL]
  | v :: vs => by
    unfold wipeL
    by_cases hv : v = j
    · subst hv
      rw [if_pos List.mem_cons_self]
      by_cases hl : v < (wipeL st vs).length
      · rw [List.getElem?_set_self hl, if_pos (by rw [← wipeL_length st vs]; exact hl)]
      · rw [List.getElem?_eq_none (by simpa using hl), if_neg (by rw [← wipeL_length st vs]; exact hl)]
    · rw [List.getElem?_set_ne hv, wipeL_at (vs := vs)]
      by_cases hm : j ∈ vs
      · rw [if_pos hm, if_pos (List.mem_cons_of_mem _ hm)]
      · rw [if_neg hm, if_neg (fun z => by
          rcases List.mem_cons.mp z with z | z
          · exact hv z.symm
          · exact hm z)]
theorem RS.wipe {K : PySem.W.Frag} {ia : List Addr} {H : Hp} {sl : LS} {st : L2.St} (r : RS K ia H sl st) (vs : List Nat) : RS K ia H (wipeL sl vs) (wipe st vs) := by
  refine ⟨by rw [wipeL_length, wipe_length, r.len], fun j v e => ?_⟩
  rw [wipeL_at] at e
  by_cases hm : j ∈ vs
  · rw [if_pos hm] at e
    split at e <;> cases e
  · rw [if_neg hm] at e
    obtain ⟨w, e1, q⟩ := r.at_ j v e
    exact ⟨w, by rw [wipe_at, if_neg hm]; exact e1, q⟩
theorem wipe_agr {S vs : List Nat} {st st' : L2.St} (a : Agr S (wipe st vs) st') (h : ∀ i ∈ S, i ∈ vs) : wipe st' vs = wipe st vs := by
  refine List.ext_getElem? fun j => ?_
  rw [wipe_at, wipe_at]
  by_cases hm : j ∈ vs
  · rw [if_pos hm, if_pos hm, a.len, wipe_length]
  · rw [if_neg hm, if_neg hm, a.at_ j fun z => hm (h j z), wipe_at, if_neg hm]
section
variable {K : PySem.W.Frag} {ca : CaT} {W : WS} {G : Prg}
theorem lc_read {n d : Nat} {tg : ITg} {k : Nat} {ifs : List IE} {elt : IE} {own : List Nat} {st : L2.St} {H : Hp} {Q : VK} (mS : M (List Val)) (hown : ∀ i ∈ slots tg, i ∈ own)
    (t : tOf K ca W (fun sl h => (mS sl h).bind fun vs h1 => match mkSrc k vs h1 with
      | some s => (run G n).l d tg ifs elt own s 0 h1.length (wipeL sl own) (h1 ++ [.lst []])
      | none => .bad) st H Q) :
    tLc (tSrc K ca W (srcM k mS)) (gB K ca tg) (fun st H Q => ∃ m, m ≤ n ∧ tOfB K ca W0 (tsIf ((run G m).t d) ifs) st H Q) (fun st H Q => ∃ m, m ≤ n ∧ tOf K ca W0 ((run G m).e d elt) st H Q) own st H Q := by
  obtain ⟨ia, sl, h, R, S, _, w⟩ := t
  refine ⟨ia, sl, h, R, S, ?_⟩
  dsimp only at w
  unfold srcM
  cases e : mS sl h with
  | bad => rw [e] at w; exact w
  | exc c v h' => rw [e] at w; exact w
  | ok vs h1 =>
    rw [e] at w
    have w' : Want K ca ia H (match mkSrc k vs h1 with
      | some s => (run G n).l d tg ifs elt own s 0 h1.length (wipeL sl own) (h1 ++ [.lst []])
      | none => .bad) Q (fun c d H' => W c d st H') := w
    show WantI K ca ia H (match mkSrc k vs h1 with
      | some s => Res.ok s h1
      | none => .bad) _ _
    cases es : mkSrc k vs h1 with
    | none => rw [es] at w'; exact w'
    | some src =>
      rw [es] at w'
      intro ka H1 J g R1 sr D nD
      have RD : Rep K ca (ia ++ ka ++ [D]) (upd H1 D (.lst [])) (h1 ++ [.lst []]) := R1.push nD ⟨[], upd_same, .nil⟩
      have gD : Grow (ia ++ ka) H1 [D] (upd H1 D (.lst [])) := Grow.push nD
      have wD := Want.shift (Want.shift w' g) gD
      have eD : (ia ++ ka ++ [D])[h1.length]? = some D := by
        rw [← R1.len]
        simp
      have SD : RS K (ia ++ ka ++ [D]) (upd H1 D (.lst [])) (wipeL sl own) (wipe st own) := ((S.grow g R).grow gD R1).wipe own
      have sD : SrcR K (ia ++ ka ++ [D]) (upd H1 D (.lst [])) src J := sr.stay (gD.hold R1)
      refine ⟨fun i m H => m ≤ n ∧ ∃ (ia : List Addr) (h : LH), Rep K ca ia H h ∧ RS K ia H (wipeL sl own) (wipe st own) ∧ SrcR K ia H src J ∧ ia[h1.length]? = some D ∧
        Want K ca ia H ((run G m).l d tg ifs elt own src i h1.length (wipeL sl own) h) Q (fun c d H' => W c d st H'), ⟨n, Nat.le_refl n, _, _, RD, SD, sD, eD, wD⟩, ?_⟩
      clear wD SD sD eD RD gD w w' es e
      rintro i m H2 ⟨hm, ia2, h2, R2, S2, sr2, e2, w2⟩
      cases m with
      | zero => exact (show False from w2).elim
      | succ m =>
        have w3 : Want K ca ia2 H2 (match item src i h2 with
          | none => .bad
          | some none => .ok (.loc h1.length) h2
          | some (some v) => (match bindT tg v (wipeL sl own) with
            | none => .bad
            | some sl1 => (calm (tsIf ((run G m).t d) ifs sl1 h2)).bind fun b h3 => match b with
              | false => (run G m).l d tg ifs elt own src (i + 1) h1.length (wipeL sl own) h3
              | true => (calm ((run G m).e d elt sl1 h3)).bind fun y h4 => match h4[h1.length]? with
                | some (.lst acc) => (match decide (acc.length < sizeLine) with
                  | true => (run G m).l d tg ifs elt own src (i + 1) h1.length (wipeL sl own) (h4.set h1.length (.lst (acc ++ [y])))
                  | false => .bad)
                | _ => .bad)) Q (fun c d H' => W c d st H') := w2
        cases ei : item src i h2 with
        | none => rw [ei] at w3; exact (show False from w3).elim
        | some o =>
          cases o with
          | none =>
            rw [ei] at w3
            exact .inl ⟨item_stop R2 sr2 ei, Want.now w3 R2 (.loc e2)⟩
          | some v =>
            rw [ei] at w3
            obtain ⟨hgo, hy⟩ := item_go R2 sr2 ei
            refine .inr ⟨hgo, fun H' => ∃ (ia : List Addr) (h : LH), Rep K ca ia H' h ∧ RS K ia H' (wipeL sl own) (wipe st own) ∧ SrcR K ia H' src J ∧ ia[h1.length]? = some D ∧
              Want K ca ia H' ((run G m).l d tg ifs elt own src (i + 1) h1.length (wipeL sl own) h) Q (fun c d H' => W c d st H'),
              fun H' ⟨ia', h', a, b, c, z, q⟩ => ⟨m, Nat.lt_succ_self m, Nat.le_of_succ_le hm, ia', h', a, b, c, z, q⟩, fun x H' yl => ?_⟩
            obtain ⟨g3, R3, r3⟩ := hy x H' yl
            have S3 := S2.grow g3 R2
            have sr3 : SrcR K (ia2 ++ []) H' src J := sr2.stay (g3.hold R2)
            rw [app_nil] at S3 sr3
            cases eb : bindT tg v (wipeL sl own) with
            | none =>
              have w4 : Want K ca ia2 H2 (match bindT tg v (wipeL sl own) with
                | none => .bad
                | some sl1 => (calm (tsIf ((run G m).t d) ifs sl1 h2)).bind fun b h3 => match b with
                  | false => (run G m).l d tg ifs elt own src (i + 1) h1.length (wipeL sl own) h3
                  | true => (calm ((run G m).e d elt sl1 h3)).bind fun y h4 => match h4[h1.length]? with
                    | some (.lst acc) => (match decide (acc.length < sizeLine) with
                      | true => (run G m).l d tg ifs elt own src (i + 1) h1.length (wipeL sl own) (h4.set h1.length (.lst (acc ++ [y])))
                      | false => .bad)
                    | _ => .bad) Q (fun c d H' => W c d st H') := w3
              rw [eb] at w4
              exact (show False from w4).elim
            | some sl1 =>
              have w4 : Want K ca ia2 H2 (match bindT tg v (wipeL sl own) with
                | none => .bad
                | some sl1 => (calm (tsIf ((run G m).t d) ifs sl1 h2)).bind fun b h3 => match b with
                  | false => (run G m).l d tg ifs elt own src (i + 1) h1.length (wipeL sl own) h3
                  | true => (calm ((run G m).e d elt sl1 h3)).bind fun y h4 => match h4[h1.length]? with
                    | some (.lst acc) => (match decide (acc.length < sizeLine) with
                      | true => (run G m).l d tg ifs elt own src (i + 1) h1.length (wipeL sl own) (h4.set h1.length (.lst (acc ++ [y])))
                      | false => .bad)
                    | _ => .bad) Q (fun c d H' => W c d st H') := w3
              rw [eb] at w4
              refine ⟨ia2, wipeL sl own, h2, v, sl1, R3, S3, r3, eb, fun st3 S4 ag => ⟨wipe_agr ag hown, m, Nat.le_of_succ_le hm, ia2, sl1, h2, R3, S4, .nil, ?_⟩⟩
              have w5 := Want.shift w4 g3
              rw [app_nil] at w5
              dsimp only at w5
              have S0 : RS K ia2 H' (wipeL sl own) (wipe st own) := S3
              cases et : tsIf ((run G m).t d) ifs sl1 h2 with
              | bad => rw [et] at w5; exact w5
              | exc c v' h' => rw [et] at w5; exact (show False from w5).elim
              | ok b h3 =>
                rw [et] at w5
                intro la H4 g4 R4
                have w6 := Want.shift w5 g4
                have S5 := S4.grow g4 R3
                have S6 := S0.grow g4 R3
                have sr4 : SrcR K (ia2 ++ la) H4 src J := sr3.stay (g4.hold R3)
                have e4 : (ia2 ++ la)[h1.length]? = some D := by
                  rw [List.getElem?_append_left (List.getElem?_eq_some_iff.mp e2).1]
                  exact e2
                cases b with
                | false =>
                  rw [if_neg Bool.false_ne_true]
                  exact ⟨ia2 ++ la, h3, R4, S6, sr4, e4, w6⟩
                | true =>
                  rw [if_pos rfl]
                  refine ⟨m, Nat.le_of_succ_le hm, ia2 ++ la, sl1, h3, R4, S5, .nil, ?_⟩
                  have w7 : Want K ca (ia2 ++ la) H4 ((calm ((run G m).e d elt sl1 h3)).bind fun y h4 => match h4[h1.length]? with
                    | some (.lst acc) => (match decide (acc.length < sizeLine) with
                      | true => (run G m).l d tg ifs elt own src (i + 1) h1.length (wipeL sl own) (h4.set h1.length (.lst (acc ++ [y])))
                      | false => .bad)
                    | _ => .bad) Q (fun c d H' => W c d st H') := w6
                  cases ee : (run G m).e d elt sl1 h3 with
                  | bad => rw [ee] at w7; exact w7
                  | exc c v' h' => rw [ee] at w7; exact (show False from w7).elim
                  | ok y h4 =>
                    rw [ee] at w7
                    intro ma H5 yv g5 R5 ry
                    have w8 : Want K ca (ia2 ++ la) H4 (match h4[h1.length]? with
                      | some (.lst acc) => (match decide (acc.length < sizeLine) with
                        | true => (run G m).l d tg ifs elt own src (i + 1) h1.length (wipeL sl own) (h4.set h1.length (.lst (acc ++ [y])))
                        | false => .bad)
                      | _ => .bad) Q (fun c d H' => W c d st H') := w7
                    have w9 := Want.shift w8 g5
                    have S7 := S6.grow g5 R4
                    have sr5 : SrcR K (ia2 ++ la ++ ma) H5 src J := sr4.stay (g5.hold R4)
                    have e5 : (ia2 ++ la ++ ma)[h1.length]? = some D := by
                      rw [List.getElem?_append_left (List.getElem?_eq_some_iff.mp e4).1]
                      exact e4
                    split at w9
                    · rename_i acc ea
                      obtain ⟨ac, hac, rac⟩ := R5.ob _ _ _ ea e5
                      split at w9
                      · rename_i hd
                        have hd := of_decide_eq_true hd
                        have k : Hold (ia2 ++ la ++ ma) [] H5 (upd H5 D (.lst (ac ++ [yv]))) := Hold.set hac (fun _ z => nomatch z) (fun _ _ z => nomatch z)
                        have gE : Grow (ia2 ++ la ++ ma) H5 [] (upd H5 D (.lst (ac ++ [yv]))) := Grow.set e5 hac
                        refine ⟨ac, hac, by rw [← rac.len]; exact hd, ia2 ++ la ++ ma, h4.set h1.length (.lst (acc ++ [y])), ?_, ?_, ?_, e5, ?_⟩
                        · have q := RVs.stay (ka := []) k (rac.app (.cons ry .nil))
                          rw [app_nil] at q
                          exact R5.set e5 k ⟨_, upd_same, q⟩
                        · have q := S7.grow gE R5
                          rw [app_nil] at q
                          exact q
                        · have q : SrcR K (ia2 ++ la ++ ma ++ []) _ src J := sr5.stay (gE.hold R5)
                          rw [app_nil] at q
                          exact q
                        · have q := Want.shift w9 gE
                          rw [app_nil] at q
                          exact q
                      · exact (show False from w9).elim
                    · exact (show False from w9).elim
end
end Mi

set_option Elab.async false
set_option linter.all false
set_option maxRecDepth 100000
set_option maxHeartbeats 1000000
/-! D11: from the row's text to the evaluator's. -/
namespace Mi
open PySem L2
/-- what a module's name stands for -/
inductive GV where
  | val (v : Val)
  | fn (i : Nat)
  | blt
  | err
  | cls
  /-- the staticmethod m of the class c -/
  | st (c m : Str) (k : Nat)
  /-- told; the names of the defs that make lambdas -/
  | tld (scs : List (List (Str × NameKind)))
abbrev Glo := List (Str × GV)
/-- a def that makes lambdas -/
def tabS (g : Glo) (sc : Scope) : Bool := g.any fun p => match p.2 with
  | .tld scs => decide (sc.names ∈ scs)
  | _ => false
def noPar : Arguments → Bool
  | ⟨[], [], none, [], [], none, []⟩ => true
  | _ => false
def visB (sc : Scope) (x : Str) : Bool := match sc.names.lookup x with
  | some .local => true
  | some .cell => true
  | some .free => true
  | _ => false
def locB (sc : Scope) (x : Str) : Bool := match sc.names.lookup x with
  | some .local => true
  | some .cell => true
  | _ => false
def gloB (sc : Scope) (x : Str) : Bool := match sc.names.lookup x with
  | some .globalImplicit => true
  | _ => false
def okN (x : Str) : Bool := !(x == ("__debug__" : Str)) && !(x == ("__classdict__" : Str)) && !decide (x = ("__name__" : Str))
def idx (N : List Str) (x : Str) : Option Nat := N.findIdx? fun y => decide (y = x)
def noStar : Expr → Bool
  | .Starred _ _ => false
  | _ => true
def mapX (f : Expr → Option IE) : List Expr → Option (List IE)
  | [] => some []
  | e :: es => match noStar e, f e, mapX f es with
    | true, some i, some is => some (i :: is)
    | _, _, _ => none
/-- with stars -/
def mapS (f : Expr → Option IE) : List Expr → Option (List Bool × List IE)
  | [] => some ([], [])
  | e :: es => (match e with
    | .Starred a _ => (match f a, mapS f es with
      | some i, some (bs, is) => some (true :: bs, i :: is)
      | _, _ => none)
    | _ => (match f e, mapS f es with
      | some i, some (bs, is) => some (false :: bs, i :: is)
      | _, _ => none))
def biOf (x : Str) (n : Nat) : Option Bi :=
  if x = ("len" : Str) ∧ n = 1 then some .len else if x = ("abs" : Str) ∧ n = 1 then some .abs else if x = ("int" : Str) ∧ n = 1 then some .int
  else if x = ("min" : Str) ∧ n = 2 then some .min2 else if x = ("max" : Str) ∧ n = 2 then some .max2 else if x = ("all" : Str) ∧ n = 1 then some .all
  else if x = ("any" : Str) ∧ n = 1 then some .any else if x = ("list" : Str) ∧ n = 1 then some .list else if x = ("tuple" : Str) ∧ n = 1 then some .tuple else if x = ("str" : Str) ∧ n = 1 then some .str else if x = ("dict" : Str) ∧ n = 1 then some .dict else none
def mtOf (x : Str) (n : Nat) : Option Mt :=
  if x = ("append" : Str) ∧ n = 1 then some .append else if x = ("extend" : Str) ∧ n = 1 then some .extend else if x = ("pop" : Str) ∧ n = 1 then some .popAt else if x = ("split" : Str) ∧ n = 1 then some .split else if x = ("startswith" : Str) ∧ n = 1 then some .startsw else if x = ("removeprefix" : Str) ∧ n = 1 then some .rmpre
  else if x = ("join" : Str) ∧ n = 1 then some .join else if x = ("get" : Str) ∧ n = 2 then some .get2 else none
/-- not the call of a name without arguments (super()) -/
def plainO : Expr → Bool
  | .Call (.Name _ _) [] [] _ => false
  | _ => true
def noSlice : Expr → Bool
  | .Slice _ _ _ _ => false
  | _ => true
def noSet : Expr → Bool
  | .Set _ _ _ => false
  | _ => true
def noComp : Expr → Bool
  | .ListComp _ _ _ _ => false
  | .SetComp _ _ _ _ => false
  | .DictComp _ _ _ _ _ => false
  | _ => true
def isTupE : Expr → Bool
  | .Tuple _ _ _ => true
  | _ => false
def isBlt (g : Glo) (sc : Scope) (x : Str) : Bool := gloB sc x && (match g.lookup x with | some .blt => true | _ => false)
/-- c.m, m a staticmethod: its def -/
def statO (g : Glo) (sc : Scope) (o : Expr) (x : Str) : Option Nat := match o with
  | .Name y _ => (match okN y && gloB sc y, g.lookup (y ++ "." ++ x) with
    | true, some (.st c m k) => if c = y ∧ m = x then some k else none
    | _, _ => none)
  | _ => none
def keyCs : List (Option Expr) → Option (List Str)
  | [] => some []
  | some (.Constant (.str k) _ _) :: r => (keyCs r).map (k :: ·)
  | _ :: _ => none
/-- the built-in types that isinstance is asked for -/
def tyName (y : Str) : Option String := if y = ("int" : Str) then some "int" else if y = ("bool" : Str) then some "bool" else if y = ("str" : Str) then some "str" else if y = ("tuple" : Str) then some "tuple"
  else if y = ("list" : Str) then some "list" else if y = ("dict" : Str) then some "dict" else if y = ("ValueError" : Str) then some "ValueError" else none
def clOf (g : Glo) (sc : Scope) : Expr → Option ClR
  | .Name y _ => if okN y && gloB sc y then (match g.lookup y with
    | some .err => some (.own y)
    | some .cls => some (.own y)
    | some .blt => (tyName y).map .ty
    | _ => none) else none
  | _ => none
/-- the names of a comprehension's own, with their slots -/
def ownOf (N : List Str) : List (Str × NameKind) → List (Str × Nat)
  | [] => []
  | (x, k) :: r => match k with
    | .local => (match idx N x with | some i => (x, i) :: ownOf N r | none => ownOf N r)
    | .cell => (match idx N x with | some i => (x, i) :: ownOf N r | none => ownOf N r)
    | _ => ownOf N r
mutual
def trG (N : List Str) (sc : Scope) : Nat → Expr → Option ITg
  | 0, _ => none
  | m + 1, e => match e with
    | .Name x _ => if locB sc x then (idx N x).map .nm else none
    | .Tuple es _ _ => (trGs N sc m es).map .tp
    | _ => none
def trGs (N : List Str) (sc : Scope) : Nat → List Expr → Option (List ITg)
  | _, [] => some []
  | 0, _ :: _ => none
  | m + 1, e :: es => match noStar e, trG N sc m e, trGs N sc m es with
    | true, some t, some ts => some (t :: ts)
    | _, _, _ => none
end
/-- what a loop walks -/
def trI (g : Glo) (sc : Scope) (f : Expr → Option IE) (tg iter : Expr) : Option (Nat × List IE) := match iter with
  | .Call (.Name x _) [a] [] _ =>
    if x = ("range" : Str) then (if isBlt g sc x && noStar a then (f a).map fun i => (1, [i]) else none)
    else if x = ("enumerate" : Str) then (if isBlt g sc x && noStar a && isTupE tg then (f a).map fun i => (3, [i]) else none)
    else (f iter).map fun i => (0, [i])
  | .Call (.Name x _) [a, b] [] _ =>
    if x = ("range" : Str) then (if isBlt g sc x && noStar a && noStar b then (match f a, f b with | some i, some j => some (2, [i, j]) | _, _ => none) else none)
    else if x = ("zip" : Str) then (if isBlt g sc x && noStar a && noStar b && isTupE tg then (match f a, f b with | some i, some j => some (4, [i, j]) | _, _ => none) else none)
    else (f iter).map fun i => (0, [i])
  | e => if noSet e then (f e).map fun i => (0, [i]) else none
def trE (g : Glo) (N : List Str) : Nat → Scope → Expr → Option IE
  | 0, _, _ => none
  | m + 1, sc, e => match e with
    | .Constant c _ _ => (match c with
      | .int i => some (.cst (.int i))
      | .str x => some (.cst (.str x))
      | .bool b => some (.cst (.bl b))
      | .none => some (.cst .non)
      | _ => none)
    | .Name x _ => if okN x then (if visB sc x then (idx N x).map .var else if gloB sc x then (match g.lookup x with
      | some (.val v) => some (.cst v)
      | _ => none) else none) else none
    | .BinOp a op b _ => (match trE g N m sc a, trE g N m sc b with
      | some i, some j => some (.bin op i j)
      | _, _ => none)
    | .UnaryOp .USub a _ => (trE g N m sc a).map .neg
    | .UnaryOp .Not a _ => (trE g N m sc a).map .nt
    | .BoolOp .And es _ => (mapX (trE g N m sc) es).map .an
    | .BoolOp .Or es _ => (mapX (trE g N m sc) es).map .orr
    | .Compare a [op] [b] _ => (match behindInMarks op b, trE g N m sc a, trE g N m sc b with
      | false, some i, some j => some (.cmp op i j)
      | _, _, _ => none)
    | .Compare a [op, op'] [b, c] _ => (match lastMarks [op, op'] [b, c], trE g N m sc a, trE g N m sc b, trE g N m sc c with
      | false, some i, some j, some k => some (.chn op op' i j k)
      | _, _, _, _ => none)
    | .IfExp c a b _ => (match trE g N m sc c, trE g N m sc a, trE g N m sc b with
      | some i, some j, some k => some (.ife i j k)
      | _, _, _ => none)
    | .Tuple es _ _ => (match es.all noStar with
      | true => (mapX (trE g N m sc) es).map .tp
      | false => (mapS (trE g N m sc) es).map fun p => .spl false p.1 p.2)
    | .List es _ => (match es.all noStar with
      | true => (mapX (trE g N m sc) es).map .ls
      | false => (mapS (trE g N m sc) es).map fun p => .spl true p.1 p.2)
    | .Subscript a s _ => (match s with
      | .Slice lo hi none _ => (match trE g N m sc a, (match lo with | none => some none | some x => (trE g N m sc x).map some), (match hi with | none => some none | some x => (trE g N m sc x).map some) with
        | some i, some l, some u => some (.sl i l u)
        | _, _, _ => none)
      | _ => (match noSlice s, trE g N m sc a, trE g N m sc s with
        | true, some i, some j => some (.ix i j)
        | _, _, _ => none))
    | .Call (.Name x p) args [] _ => (match okN x && gloB sc x with
      | true => (match g.lookup x with
        | some (.fn k) => (mapX (trE g N m sc) args).map (.cal k)
        | some .err => (match args with
          | [a] => (match noStar a, trE g N m sc a with
            | true, some i => some (.mkE x i)
            | _, _ => none)
          | _ => none)
        | some .cls => (mapX (trE g N m sc) args).map (.mk x)
        | some .blt => (match (if x = ("isinstance" : Str) then (match args with
            | [a, ce] => (match noStar a, trE g N m sc a, clOf g sc ce with
              | true, some i, some c => some (IE.isi i c)
              | _, _, _ => none)
            | _ => none) else if x = ("repr" : Str) then (match args with
            | [a] => (match noStar a, trE g N m sc a with
              | true, some i => some (IE.rpr i)
              | _, _ => none)
            | _ => none) else none) with
          | some i => some i
          | none => (match (if x = ("len" : Str) then (match args with
            | [.Call (.Name y _) [a] [] _] => if y = ("set" : Str) ∧ isBlt g sc y = true ∧ noStar a = true then some a else none
            | _ => none) else none) with
          | some a => (trE g N m sc a).map fun i => .opn .lset [i]
          | none => (match (if x = ("list" : Str) then (match args with
            | [.Call (.Name y _) [a] [] _] => if y = ("range" : Str) ∧ isBlt g sc y = true ∧ noStar a = true then some a else none
            | _ => none) else none) with
          | some a => (trE g N m sc a).map .lrg
          | none => (match biOf x args.length, mapX (trE g N m sc) args with
            | some b, some is => some (.blt b is)
            | _, _ => none))))
        | some (.tld _) => (match args with
          | [.Lambda ps body scope _] => (match tabS g sc && !tabS g scope && LamX.lamSB sc scope && noPar ps, trE g N m scope body with
            | true, some i => some (.tld i)
            | _, _ => none)
          | _ => none)
        | _ => none)
      | false => none)
    | .Attribute a x _ => (match plainO a, trE g N m sc a with
      | true, some i => some (match decide (x = ("value" : Str)) with
        | true => .fld i
        | false => .att i x)
      | _, _ => none)
    | .Dict keys vals _ => (match keyCs keys, mapX (trE g N m sc) vals, decide (keys.length = vals.length) && decide (keys.length ≤ 15) with
      | some ks, some is, true => some (.dsp ks is)
      | _, _, _ => none)
    | .Call (.Attribute o x ap) args [] cp => (match statO g sc o x with
      | some k => (match !args.isEmpty && (ap.endLine == cp.line) && decide (args.length < 29), mapX (trE g N m sc) args with
        | true, some is => some (.cal k is)
        | _, _ => none)
      | none => match plainO o && (ap.endLine == cp.line) && decide (args.length < 29), trE g N m sc o, mapX (trE g N m sc) args with
      | true, some i, some is => some (match mtOf x args.length with
        | some mt => .mth mt i is
        | none => .mcl i x is)
      | _, _, _ => none)
    | .ListComp elt [⟨tg, iter, ifs, 0⟩] scope _ =>
      let own := ownOf N scope.names
      let sc' := relS scope sc
      (match blkC N sc scope own && noSet iter && decide (ifs.length ≤ 1) && !tabS g sc', trI g sc (trE g N m sc) tg iter, trG N scope m tg, mapX (trE g N m sc') ifs, trE g N m sc' elt with
      | true, some (k, es), some t, some is, some i => if (slots t).all (fun j => (own.map (·.2)).contains j) then some (.lc t k es is i (own.map (·.2))) else none
      | _, _, _, _, _ => none)
    | .FormattedValue a c none _ => (match decide (c = -1), trE g N m sc a with
      | true, some i => some (.fmt i)
      | _, _ => none)
    | .JoinedStr es _ => (match decide (2 ≤ es.length), mapX (trE g N m sc) es with
      | true, some is => some (.js is)
      | _, _ => none)
    | _ => none
/-- are the stores of a, b = x, y exchanged -/
def swOk (sc : Scope) (ts vs : List Expr) : Option Bool :=
  let line := (ts.head?.map (·.pos.line)).getD 0
  let names := ts.filterMap fun
    | .Name id pos => if sc.names.lookup id == some .local && pos.line == line then some id else none
    | _ => none
  if !(ts.length == 2 || ts.length == 3) || vs.length != ts.length then some false
  else if vs.any fun | .Starred .. => true | _ => false then some false
  else if names.length != ts.length || names.eraseDups.length != names.length then some false
  else if vs.all (foldedForSure 8) then some false
  else if vs.all (constantsAlone 8) then none else some true
/-- is the store of y = [..] among the comprehension's own -/
def lcSw (sc scope : Scope) (y : Str) (py pos : Pos) : Bool := (sc.names.lookup y == some .local) && py.line == pos.line && !(scope.names.any fun (n, k) => n == y && (k == .local || k == .cell))
def asgOk (sc : Scope) (tg e : Expr) : Bool := match e with
  | .ListComp _ _ _ _ => (match tg with
    | .Name _ _ => true
    | _ => false)
  | .SetComp _ _ _ _ => false
  | .DictComp _ _ _ _ _ => false
  | .Tuple vs _ _ => (match tg with
    | .Tuple ts _ _ => (match swOk sc ts vs with
      | some false => true
      | some true => decide (ts.length = 2) && vs.all noStar
      | none => false)
    | _ => true)
  | _ => true
def trS1 (g : Glo) (N : List Str) (f : List Stmt → Option (List IS)) (m : Nat) (sc : Scope) (st : Stmt) : Option IS := match st with
  | .Expr (.Constant (.str _) _ _) _ => some .pas
  | .Expr e _ => (match noComp e, trE g N m sc e with
    | true, some i => some (.ex i)
    | _, _ => none)
  | .Assign [tg] e pos => (match tg with
    | .Subscript o i _ => (match noComp e && noSlice i, trE g N m sc o, trE g N m sc i, trE g N m sc e with
      | true, some a, some b, some c => some (.sub a b c)
      | _, _, _, _ => none)
    | .Attribute o f _ => (match noComp e, trE g N m sc o, trE g N m sc e with
      | true, some a, some c => some (.sta a f c)
      | _, _, _ => none)
    | _ => (match trG N sc m tg, trE g N m sc e, asgOk sc tg e with
      | some t, some i, true => some (.asg t i)
      | _, _, _ => none))
  | .Return none _ => some (.ret none)
  | .Return (some e) _ => (trE g N m sc e).map fun i => .ret (some i)
  | .If c a b _ => (match trE g N m sc c, f a, f b with
    | some i, some x, some y => some (.iff i x y)
    | _, _, _ => none)
  | .For tg iter body [] _ => (match noSet iter, trI g sc (trE g N m sc) tg iter, trG N sc m tg, f body with
    | true, some (k, es), some t, some b => some (.for_ t k es b)
    | _, _, _, _ => none)
  | .While c body [] _ => (match trE g N m sc c, f body with
    | some i, some b => some (.whl i b)
    | _, _ => none)
  | .Break _ => some .brk
  | .Continue _ => some .cnt
  | .Pass _ => some .pas
  | .Raise (some (.Call (.Name x _) [a] [] _)) none _ => (match okN x && gloB sc x && noStar a, g.lookup x, trE g N m sc a with
    | true, some .err, some i => some (.rse x i)
    | _, _, _ => some .nev)
  | .Raise _ _ _ => some .nev
  | _ => none
def trS (g : Glo) (N : List Str) : Nat → Scope → List Stmt → Option (List IS)
  | _, _, [] => some []
  | 0, _, _ :: _ => none
  | m + 1, sc, st :: rest => (match trS1 g N (trS g N m sc) m sc st, trS g N m sc rest with
    | some i, some is => some (i :: is)
    | none, some is => some (.nev :: is)
    | _, none => none)
end Mi

set_option Elab.async false
set_option linter.all false
set_option maxRecDepth 100000
set_option maxHeartbeats 1000000
/-! D12: each construct, by the runs of its parts. -/
namespace Mi
open PySem L2 PyProof.Rows
section
variable {X : Cx} {ca : CaT} {W : WS} {a b c e : Expr} {es : List Expr} {pos : Pos} {ma mb mc : M Val}
/-- two values in hand -/
theorem two {f : Val → Val → LH → Res Val} {v w : Val} {x y : V} {st : L2.St} {H : Hp} {Q : VK} (t : tC X.K ca W [w, v] [y, x] (fun sl h => f v w h) st H Q) : rV2 X.K ca f x y H Q := by
  obtain ⟨ia, sl, h, R, S, r, q⟩ := t
  cases r with
  | cons ry r =>
    cases r with
    | cons rx _ => exact ⟨ia, h, v, w, _, R, rx, ry, q⟩
theorem opv (op : Operator) : OpR X (binaryOp op) (rV2 X.K ca (vBin op)) := by
  cases op with
  | Add => exact ov_add
  | Sub => exact ov_sub
  | Mult => exact ov_mul
  | FloorDiv => exact ov_div
  | Mod => exact ov_mod
  | Pow => exact ov_pow
  | _ =>
    intro pins s st H x y v u Q I rx ry ⟨ia, h, a, b, E, R, ra, rb, w⟩
    exact (show False from w).elim
theorem cpv (hu : X.A.units + 65 < cLine) (op : CmpOp) : OpR X (compareOp op) (rV2 X.K ca (vCmp op)) := by
  cases op with
  | Eq => exact ov_eq (by omega)
  | NotEq => exact ov_ne (by omega)
  | Lt => exact ov_lt
  | LtE => exact ov_le
  | Gt => exact ov_gt
  | GtE => exact ov_ge
  | Is => exact ov_is
  | IsNot => exact ov_isn
  | In => exact ov_in hu
  | NotIn => exact ov_nin hu
theorem d_bin {op : Operator} (ha : PE X a (tOf X.K ca W ma)) (hb : PE X b (tOf X.K ca W mb)) :
    PE X (.BinOp a op b pos) (tOf X.K ca W (fun sl h => (ma sl h).bind fun v h1 => (mb sl h1).bind fun w h2 => vBin op v w h2)) := by
  refine pe_imp (pe_op (opv (ca := ca) op) ha hb) fun st H Q t => ?_
  refine (tC.step (f := fun v sl h1 => (mb sl h1).bind fun w h2 => vBin op v w h2) t).mono fun x H1 ⟨v, t1⟩ => ?_
  refine (tC.step (f := fun w sl h2 => vBin op v w h2) t1).mono fun y H2 ⟨w, t2⟩ => two t2
theorem d_cmp {op : CmpOp} (hu : X.A.units + 65 < cLine) (hm : behindInMarks op b = false) (ha : PE X a (tOf X.K ca W ma)) (hb : PE X b (tOf X.K ca W mb)) :
    PE X (.Compare a [op] [b] pos) (tOf X.K ca W (fun sl h => (ma sl h).bind fun v h1 => (mb sl h1).bind fun w h2 => vCmp op v w h2)) := by
  refine pe_imp (pe_cmpR (cpv (ca := ca) hu op) ha hb hm) fun st H Q t => ?_
  refine (tC.step (f := fun v sl h1 => (mb sl h1).bind fun w h2 => vCmp op v w h2) t).mono fun x H1 ⟨v, t1⟩ => ?_
  refine (tC.step (f := fun w sl h2 => vCmp op v w h2) t1).mono fun y H2 ⟨w, t2⟩ => two t2
theorem d_ix (hu : X.A.units + 1 < cLine) (hs : noSlice b = true) (ha : PE X a (tOf X.K ca W ma)) (hb : PE X b (tOf X.K ca W mb)) :
    PE X (.Subscript a b pos) (tOf X.K ca W (fun sl h => (ma sl h).bind fun v h1 => (mb sl h1).bind fun w h2 => vIx v w h2)) := by
  refine pe_imp (pe_ix (iv_ix (ca := ca) hu) ha hb ?_) fun st H Q t => ?_
  · intro o i
    cases b <;> first | rfl | cases hs
  · refine (tC.step (f := fun v sl h1 => (mb sl h1).bind fun w h2 => vIx v w h2) t).mono fun x H1 ⟨v, t1⟩ => ?_
    refine (tC.step (f := fun w sl h2 => vIx v w h2) t1).mono fun y H2 ⟨w, t2⟩ => two t2
theorem d_neg (ha : PE X a (tOf X.K ca W ma)) : PE X (.UnaryOp .USub a pos) (tOf X.K ca W (fun sl h => (ma sl h).bind fun v h1 => vNeg v h1)) := by
  refine pe_imp (pe_un (uv_neg (ca := ca)) ha) fun st H Q t => ?_
  refine (tC.step (f := fun v sl h1 => vNeg v h1) t).mono fun x H1 ⟨v, t1⟩ => ?_
  obtain ⟨ia, sl, h, R, S, r, q⟩ := t1
  cases r with
  | cons rx _ => exact ⟨ia, h, v, _, R, rx, q⟩
theorem d_nt (ha : PE X a (tOf X.K ca W ma)) : PE X (.UnaryOp .Not a pos) (tOf X.K ca W (fun sl h => (ma sl h).bind fun v h1 => match v with
    | .bl b => .ok (.bl (!b)) h1
    | _ => .bad)) := by
  refine pe_imp (pe_not ha) fun st H Q t => ?_
  refine (tC.step (f := fun v sl h1 => match v with
    | .bl b => .ok (.bl (!b)) h1
    | _ => .bad) t).mono fun x H1 ⟨v, t1⟩ => ?_
  obtain ⟨ia, sl, h, R, S, r, q⟩ := t1
  cases r with
  | cons rx _ =>
    dsimp only at q
    split at q
    · cases rx
      exact ⟨_, rfl, q.now R (.bl _)⟩
    · exact (show False from q).elim
theorem d_ife {mt : M Bool} (hc : PT X c (tOfB X.K ca W mt)) (ha : PE X a (tOf X.K ca W ma)) (hb : PE X b (tOf X.K ca W mb)) : PE X (.IfExp c a b pos) (tOf X.K ca W (fun sl h => (mt sl h).bind fun x h1 => match x with
    | true => ma sl h1
    | false => mb sl h1)) := by
  refine pe_imp (pe_ifExp hc ha hb) fun st H Q t => ?_
  obtain ⟨ia, sl, h, R, S, r, q⟩ := tC.stepB (f := fun x sl h1 => match x with
    | true => ma sl h1
    | false => mb sl h1) t
  refine ⟨ia, sl, h, R, S, r, ?_⟩
  cases e : mt sl h with
  | bad => rw [e] at q; exact q
  | exc c v h' => rw [e] at q; exact q
  | ok x h1 =>
    rw [e] at q
    intro ka H' g R'
    have z := q ka H' g R'
    cases x with
    | true => rw [if_pos rfl]; exact z
    | false => rw [if_neg Bool.false_ne_true]; exact z
/-! ### lists of expressions -/
theorem d_nil : PA X [] (tOfL X.K ca W (fun _ h => .ok [] h)) := pa_imp pa_nil fun st H Q t => by
  obtain ⟨ia, sl, h, R, S, r, q⟩ := t
  exact WantL.now q R .nil
theorem star_cons {e : Expr} {es : List Expr} (hs : noStar e = true) : starEach (e :: es) X.env = (false, eval e X.env) :: starEach es X.env := by
  cases e <;> first | rfl | cases hs
theorem d_cons {ml : M (List Val)} (hs : noStar e = true) (he : PE X e (tOf X.K ca W ma)) (hes : PA X es (tOfL X.K ca W ml)) :
    PA X (e :: es) (tOfL X.K ca W (fun sl h => (ma sl h).bind fun v h1 => (ml sl h1).bind fun vs h2 => .ok (v :: vs) h2)) := by
  refine pa_imp (pa_cons he hes (star_cons hs)) fun st H Q t => ?_
  refine (tCL.step (f := fun v sl h1 => (ml sl h1).bind fun vs h2 => .ok (v :: vs) h2) t).mono fun x H1 ⟨v, t1⟩ => ?_
  obtain ⟨ia, sl, h, R, S, r, q⟩ := tCL.stepL (f := fun vs sl h2 => .ok (v :: vs) h2) t1
  refine ⟨ia, sl, h, R, S, r, ?_⟩
  cases e' : ml sl h with
  | bad => rw [e'] at q; exact q
  | exc c v h' => rw [e'] at q; exact q
  | ok vs h1 =>
    rw [e'] at q
    intro ka H' ys g R' r'
    obtain ⟨ws, t2, hl⟩ := q ka H' ys g R' r'
    obtain ⟨ia2, sl2, h2, R2, S2, r2, q2⟩ := t2
    obtain ⟨z1, z2⟩ : RVs X.K ia2 H' ws ys ∧ RVs X.K ia2 H' [v] [x] := by
      have sp : ∀ {a b : List Val} {c d : List V}, a.length = c.length → RVs X.K ia2 H' (a ++ b) (c ++ d) → RVs X.K ia2 H' a c ∧ RVs X.K ia2 H' b d := by
        intro a
        induction a with
        | nil =>
          intro b c d hl r
          cases c with
          | nil => exact ⟨.nil, r⟩
          | cons _ _ => cases hl
        | cons x a ih =>
          intro b c d hl r
          cases c with
          | nil => cases hl
          | cons y c =>
            cases r with
            | cons r1 r2 =>
              obtain ⟨q1, q2⟩ := ih (by simpa using hl) r2
              exact ⟨.cons r1 q1, q2⟩
      exact sp hl r2
    cases z2 with
    | cons z2 _ => exact WantL.now q2 R2 (.cons z2 z1)
theorem d_list {f : Expr → Option IE} {ev : IE → LS → LH → Res Val} (hf : ∀ e ie, f e = some ie → PE X e (tOf X.K ca W (ev ie))) : ∀ {es : List Expr} {is : List IE}, mapX f es = some is → PA X es (tOfL X.K ca W (evL ev is))
  | [], is, h => by
    cases h
    exact d_nil
  | e :: es, is, h => by
    unfold mapX at h
    split at h
    · rename_i i js e1 e2 e3
      cases h
      exact d_cons e1 (hf e i e2) (d_list hf e3)
    · cases h
theorem mapX_star {f : Expr → Option IE} : ∀ {es : List Expr} {is : List IE}, mapX f es = some is → es.length = is.length ∧ ∀ e ∈ es, noStar e = true
  | [], is, h => by cases h; exact ⟨rfl, fun _ z => nomatch z⟩
  | e :: es, is, h => by
    unfold mapX at h
    split at h
    · rename_i i js e1 e2 e3
      cases h
      obtain ⟨l, n⟩ := mapX_star e3
      refine ⟨by simp [l], fun x hx => ?_⟩
      rcases List.mem_cons.mp hx with rfl | hx
      · exact e1
      · exact n x hx
    · cases h
theorem star_none {pos : Pos} : ∀ {es : List Expr}, (∀ e ∈ es, noStar e = true) → (backTo pos (starEach es X.env)).any (·.1) = false
  | [], _ => rfl
  | e :: es, h => by
    rw [star_cons (h e List.mem_cons_self)]
    show (false || (backTo pos (starEach es X.env)).any (·.1)) = false
    rw [star_none fun x hx => h x (List.mem_cons_of_mem _ hx)]
    rfl
theorem d_tp {x1 : Nat} {ml : M (List Val)} (h : PA X es (tOfL X.K ca W ml)) : PE X (.Tuple es x1 pos) (tOf X.K ca W (fun sl h => (ml sl h).bind fun vs h1 => chk (decide (vs.length ≤ sizeLine)) (.ok (.tup vs) h1))) := by
  refine pe_imp (pe_tup h) fun st H Q t => ?_
  obtain ⟨ia, sl, h, R, S, r, q⟩ := tC.stepL (f := fun vs sl h1 => chk (decide (vs.length ≤ sizeLine)) (.ok (.tup vs) h1)) t
  refine ⟨ia, sl, h, R, S, r, ?_⟩
  cases e' : ml sl h with
  | bad => rw [e'] at q; exact q
  | exc c v h' => rw [e'] at q; exact q
  | ok vs h1 =>
    rw [e'] at q
    intro ka H' ys g R' r'
    obtain ⟨ws, ⟨ia2, sl2, h2, R2, S2, r2, q2⟩, hl⟩ := q ka H' ys g R' r'
    rw [List.append_nil, List.append_nil] at r2
    obtain ⟨c, q2⟩ := chk_ok q2
    exact ⟨by rw [← hl]; exact of_decide_eq_true c, q2.newT R2 r2⟩
theorem d_ls {ml : M (List Val)} (h : PA X es (tOfL X.K ca W ml)) : PE X (.List es pos) (tOf X.K ca W (fun sl h => (ml sl h).bind fun vs h1 => chk (decide (vs.length ≤ sizeLine)) (newL vs h1))) := by
  refine pe_imp (pe_lst h) fun st H Q t => ?_
  obtain ⟨ia, sl, h, R, S, r, q⟩ := tC.stepL (f := fun vs sl h1 => chk (decide (vs.length ≤ sizeLine)) (newL vs h1)) t
  refine ⟨ia, sl, h, R, S, r, ?_⟩
  cases e' : ml sl h with
  | bad => rw [e'] at q; exact q
  | exc c v h' => rw [e'] at q; exact q
  | ok vs h1 =>
    rw [e'] at q
    intro ka H' ys g R' r'
    obtain ⟨ws, ⟨ia2, sl2, h2, R2, S2, r2, q2⟩, hl⟩ := q ka H' ys g R' r'
    rw [List.append_nil, List.append_nil] at r2
    obtain ⟨c, q2⟩ := chk_ok q2
    exact ⟨by rw [← hl]; exact of_decide_eq_true c, q2.newL R2 r2⟩
/-- values in hand, then a call of them -/
theorem lst_call {ml : M (List Val)} {f : List Val → LH → Res Val} {st : L2.St} {H : Hp} {Q : VK} (t : tOf X.K ca W (fun sl h => (ml sl h).bind fun vs h1 => f vs h1) st H Q) :
    tOfL X.K ca W ml st H (fun ys H1 => ∃ (ia : List Addr) (h : LH) (vs : List Val), Rep X.K ca ia H1 h ∧ RVs X.K ia H1 vs ys ∧ Want X.K ca ia H1 (f vs h) Q (fun c d H' => W c d st H')) := by
  obtain ⟨ia, sl, h, R, S, r, q⟩ := tC.stepL (f := fun vs sl h1 => f vs h1) t
  refine ⟨ia, sl, h, R, S, r, ?_⟩
  cases e' : ml sl h with
  | bad => rw [e'] at q; exact q
  | exc c v h' => rw [e'] at q; exact q
  | ok vs h1 =>
    rw [e'] at q
    intro ka H' ys g R' r'
    obtain ⟨ws, ⟨ia2, sl2, h2, R2, S2, r2, q2⟩, hl⟩ := q ka H' ys g R' r'
    rw [List.append_nil, List.append_nil] at r2
    exact ⟨ia2, h2, ws, R2, r2, q2⟩
theorem tCL.mono {ml : M (List Val)} {st : L2.St} {H : Hp} {vs : List Val} {xs : List V} {Q Q' : List V → Hp → Prop} (t : tCL X.K ca W vs xs ml st H Q) (k : ∀ x H', Q x H' → Q' x H') : tCL X.K ca W vs xs ml st H Q' := by
  obtain ⟨ia, sl, h, R, S, r, q⟩ := t
  refine ⟨ia, sl, h, R, S, r, ?_⟩
  cases e : ml sl h with
  | bad => rw [e] at q; exact q
  | exc c v h' => rw [e] at q; exact q
  | ok vs h1 => rw [e] at q; exact fun ka H' ys g R' r' => k _ _ (q ka H' ys g R' r')
theorem tCB.mono {mt : M Bool} {st : L2.St} {H : Hp} {vs : List Val} {xs : List V} {Q Q' : Bool → Hp → Prop} (t : tCB X.K ca W vs xs mt st H Q) (k : ∀ x H', Q x H' → Q' x H') : tCB X.K ca W vs xs mt st H Q' := by
  obtain ⟨ia, sl, h, R, S, r, q⟩ := t
  refine ⟨ia, sl, h, R, S, r, ?_⟩
  cases e : mt sl h with
  | bad => rw [e] at q; exact q
  | exc c v h' => rw [e] at q; exact q
  | ok vs h1 => rw [e] at q; exact fun ka H' g R' => k _ _ (q ka H' g R')
theorem d_blt {x : Str} {bi : Bi} {p : Pos} {ml : M (List Val)} (hc : X.calm = true) (hg : Gl X x) (hm : X.mg x = none) (hv : bootBuiltins x = some (biV bi)) (hn : okN x = true) (hst : ∀ y ∈ e :: es, noStar y = true) (ha : PA X (e :: es) (tOfL X.K ca W ml)) :
    PE X (.Call (.Name x p) (e :: es) [] pos) (tOf X.K ca W (fun sl h => (ml sl h).bind fun vs h1 => vBi bi vs h1)) := by
  have h1 : x ≠ "__name__" := by
    unfold okN at hn
    simp only [Bool.and_eq_true, Bool.not_eq_true', decide_eq_false_iff_not] at hn
    exact hn.2
  have h2 : (x == ("__debug__" : Str)) = false := by
    unfold okN at hn
    simp only [Bool.and_eq_true, Bool.not_eq_true'] at hn
    exact hn.1.1
  have h3 := star_cons (X := X) (es := es) (hst e List.mem_cons_self)
  have h4 := star_none (X := X) (pos := pos) fun y hy => hst y (List.mem_cons_of_mem _ hy)
  have key : ∀ st H Q, tOf X.K ca W (fun sl h => (ml sl h).bind fun vs h1 => vBi bi vs h1) st H Q → L2.tCB (rVL X.K ca (vBi bi)) (tOfL X.K ca W ml) st H Q := fun st H Q t =>
    tCL.mono (lst_call t) fun ys H1 ⟨ia, h, vs, R, r, q⟩ => ⟨ia, h, vs, _, R, r, q⟩
  have cr := cv_bi (ca := ca) hc bi
  cases bi with
  | len => exact pe_imp (pe_callB cr hg hm hv ha h1 h2 h3 h4) key
  | abs => exact pe_imp (pe_callB cr hg hm hv ha h1 h2 h3 h4) key
  | min2 => exact pe_imp (pe_callB cr hg hm hv ha h1 h2 h3 h4) key
  | max2 => exact pe_imp (pe_callB cr hg hm hv ha h1 h2 h3 h4) key
  | all => exact pe_imp (pe_callB cr hg hm hv ha h1 h2 h3 h4) key
  | any => exact pe_imp (pe_callB cr hg hm hv ha h1 h2 h3 h4) key
  | int => exact pe_imp (pe_callTy cr hg hm hv ha h1 h2 h3 h4) key
  | list => exact pe_imp (pe_callTy cr hg hm hv ha h1 h2 h3 h4) key
  | tuple => exact pe_imp (pe_callTy cr hg hm hv ha h1 h2 h3 h4) key
  | str => exact pe_imp (pe_callTy cr hg hm hv ha h1 h2 h3 h4) key
  | dict => exact pe_imp (pe_callTy cr hg hm hv ha h1 h2 h3 h4) key
end
end Mi

set_option Elab.async false
set_option linter.all false
set_option maxRecDepth 100000
set_option maxHeartbeats 1000000
/-! D13: further constructs. -/
namespace Mi
open PySem L2 PyProof.Rows
section
variable {X : Cx} {ca : CaT} {W : WS} {a b c e o : Expr} {es : List Expr} {pos : Pos} {ma mb mc : M Val}
/-- the value at hand is what the result wants -/
theorem tOf.split {m : M Val} {st : L2.St} {H : Hp} {Q : VK} {vs : List Val} {xs : List V} (t : tC X.K ca W vs xs m st H Q) : ∃ (ia : List Addr) (sl : LS) (h : LH), Rep X.K ca ia H h ∧ RS X.K ia H sl st ∧ RVs X.K ia H vs xs ∧ Want X.K ca ia H (m sl h) Q (fun c d H' => W c d st H') := t
theorem chn_read {op op' : CmpOp} {st : L2.St} {H : Hp} {Q : VK} (t : tOf X.K ca W (fun sl h => (ma sl h).bind fun v h1 => (mb sl h1).bind fun w h2 => (vCmp op v w h2).bind fun z h3 => chnK z h3 fun h3 => (mc sl h3).bind fun u h4 => vCmp op' w u h4) st H Q) :
    tChain (rV2 X.K ca (vCmp op)) (rV2 X.K ca (vCmp op')) (tOf X.K ca W ma) (tOf X.K ca W mb) (tOf X.K ca W mc) st H Q := by
  refine (tC.step (f := fun v sl h1 => (mb sl h1).bind fun w h2 => (vCmp op v w h2).bind fun z h3 => chnK z h3 fun h3 => (mc sl h3).bind fun u h4 => vCmp op' w u h4) t).mono fun x H1 ⟨v, t1⟩ => ?_
  refine (tC.step (f := fun w sl h2 => (vCmp op v w h2).bind fun z h3 => chnK z h3 fun h3 => (mc sl h3).bind fun u h4 => vCmp op' w u h4) t1).mono fun y H2 ⟨w, t2⟩ => ?_
  obtain ⟨ia, sl, h, R, S, r, q⟩ := t2
  cases r with
  | cons ry r =>
    cases r with
    | cons rx _ =>
      refine ⟨ia, h, v, w, fun c d H' => W c d st H', R, rx, ry, ?_⟩
      dsimp only at q
      cases ez : vCmp op v w h with
      | bad => rw [ez] at q; exact q
      | exc c v h' => rw [ez] at q; exact q
      | ok z h3 =>
        rw [ez] at q
        intro ka H3 z' g R3 rz
        have q2 := Want.shift (show Want X.K ca ia H2 (chnK z h3 fun h3 => (mc sl h3).bind fun u h4 => vCmp op' w u h4) Q (fun c d H' => W c d st H') from q) g
        unfold chnK at q2
        split at q2
        · cases rz
          refine ⟨true, rfl, ?_⟩
          rw [if_pos rfl]
          have t3 : tC X.K ca W [w] [y] (fun sl h => (mc sl h).bind fun u h4 => vCmp op' w u h4) st H3 Q := ⟨ia ++ ka, sl, h3, R3, S.grow g R, .cons (ry.grow g R) .nil, q2⟩
          exact (tC.step (f := fun u sl h4 => vCmp op' w u h4) t3).mono fun y' H4 ⟨u, t4⟩ => two t4
        · cases rz
          refine ⟨false, rfl, ?_⟩
          rw [if_neg Bool.false_ne_true]
          exact q2.now R3 (.bl _)
        · exact (show False from q2).elim
theorem d_chn {op op' : CmpOp} (hu : X.A.units + 65 < cLine) (hm : lastMarks [op, op'] [b, c] = false) (ha : PE X a (tOf X.K ca W ma)) (hb : PE X b (tOf X.K ca W mb)) (hc : PE X c (tOf X.K ca W mc)) :
    PE X (.Compare a [op, op'] [b, c] pos) (tOf X.K ca W (fun sl h => (ma sl h).bind fun v h1 => (mb sl h1).bind fun w h2 => (vCmp op v w h2).bind fun z h3 => chnK z h3 fun h3 => (mc sl h3).bind fun u h4 => vCmp op' w u h4)) :=
  pe_imp (pe_chain (cpv (ca := ca) hu op) (cpv (ca := ca) hu op') ha hb hc hm) fun st H Q t => chn_read t
/-! ### and, or as values -/
theorem d_an {ev : IE → LS → LH → Res Val} {f : Expr → Option IE} (hf : ∀ e ie, f e = some ie → PE X e (tOf X.K ca W (ev ie))) : ∀ {es : List Expr} {is : List IE}, mapX f es = some is → PE X (.BoolOp .And es pos) (tOf X.K ca W (evAn ev is))
  | [], is, h => by
    cases h
    exact ⟨fun pins s st H Q I t => by obtain ⟨_, _, _, _, _, _, w⟩ := t; exact (show False from w).elim⟩
  | [e], is, h => by
    unfold mapX at h
    split at h
    · rename_i i js e1 e2 e3
      cases h
      cases e3
      exact pe_one (hf e i e2)
    · cases h
  | e :: e2 :: es, is, h => by
    unfold mapX at h
    split at h
    · rename_i i js e1 e4 e3
      cases h
      have ih := d_an hf e3
      have hjs : ∃ j js', js = j :: js' := by
        have l := (mapX_star e3).1
        cases js with
        | nil => cases l
        | cons j js' => exact ⟨j, js', rfl⟩
      obtain ⟨j, js', rfl⟩ := hjs
      refine pe_imp (pe_and (hf e i e4) ih) fun st H Q t => ?_
      refine (tC.step (f := fun v sl h1 => match v with
        | .bl true => evAn ev (j :: js') sl h1
        | .bl false => .ok (.bl false) h1
        | _ => .bad) t).mono fun x H1 ⟨v, t1⟩ => ?_
      obtain ⟨ia, sl, h, R, S, r, q⟩ := t1
      cases r with
      | cons rx _ =>
        dsimp only at q
        split at q
        · cases rx
          exact ⟨true, rfl, by rw [if_pos rfl]; exact ⟨ia, sl, h, R, S, .nil, q⟩⟩
        · cases rx
          exact ⟨false, rfl, by rw [if_neg Bool.false_ne_true]; exact q.now R (.bl _)⟩
        · exact (show False from q).elim
    · cases h
theorem d_or {ev : IE → LS → LH → Res Val} {f : Expr → Option IE} (hf : ∀ e ie, f e = some ie → PE X e (tOf X.K ca W (ev ie))) : ∀ {es : List Expr} {is : List IE}, mapX f es = some is → PE X (.BoolOp .Or es pos) (tOf X.K ca W (evOr ev is))
  | [], is, h => by
    cases h
    exact ⟨fun pins s st H Q I t => by obtain ⟨_, _, _, _, _, _, w⟩ := t; exact (show False from w).elim⟩
  | [e], is, h => by
    unfold mapX at h
    split at h
    · rename_i i js e1 e2 e3
      cases h
      cases e3
      exact pe_one (hf e i e2)
    · cases h
  | e :: e2 :: es, is, h => by
    unfold mapX at h
    split at h
    · rename_i i js e1 e4 e3
      cases h
      have ih := d_or hf e3
      have hjs : ∃ j js', js = j :: js' := by
        have l := (mapX_star e3).1
        cases js with
        | nil => cases l
        | cons j js' => exact ⟨j, js', rfl⟩
      obtain ⟨j, js', rfl⟩ := hjs
      refine pe_imp (pe_or (hf e i e4) ih) fun st H Q t => ?_
      refine (tC.step (f := fun v sl h1 => match v with
        | .bl true => .ok (.bl true) h1
        | .bl false => evOr ev (j :: js') sl h1
        | _ => .bad) t).mono fun x H1 ⟨v, t1⟩ => ?_
      obtain ⟨ia, sl, h, R, S, r, q⟩ := t1
      cases r with
      | cons rx _ =>
        dsimp only at q
        split at q
        · cases rx
          exact ⟨true, rfl, by rw [if_pos rfl]; exact q.now R (.bl _)⟩
        · cases rx
          exact ⟨false, rfl, by rw [if_neg Bool.false_ne_true]; exact ⟨ia, sl, h, R, S, .nil, q⟩⟩
        · exact (show False from q).elim
    · cases h
/-! ### tests -/
theorem pw_imp {e : Expr} {t t' : TT} (h : PW X e t) (k : ∀ st H Q, t' st H Q → t st H Q) : PW X e t' := ⟨fun wh pins s st H Q I q => h.run wh pins s st H Q I (k st H Q q)⟩
theorem dt_an {ev : IE → LS → LH → Res Bool} {f : Expr → Option IE} (hf : ∀ e ie, f e = some ie → PT X e (tOfB X.K ca W (ev ie))) : ∀ {es : List Expr} {is : List IE}, mapX f es = some is → PW X (.BoolOp .And es pos) (tOfB X.K ca W (tsAn ev is))
  | [], is, h => by
    cases h
    exact ⟨fun wh pins s st H Q I t => by obtain ⟨_, _, _, _, _, _, w⟩ := t; exact (show False from w).elim⟩
  | [e], is, h => by
    unfold mapX at h
    split at h
    · rename_i i js e1 e2 e3
      cases h
      cases e3
      exact pw_and1 (hf e i e2)
    · cases h
  | e :: e2 :: es, is, h => by
    unfold mapX at h
    split at h
    · rename_i i js e1 e4 e3
      cases h
      have ih := dt_an hf e3
      have hjs : ∃ j js', js = j :: js' := by
        have l := (mapX_star e3).1
        cases js with
        | nil => cases l
        | cons j js' => exact ⟨j, js', rfl⟩
      obtain ⟨j, js', rfl⟩ := hjs
      refine pw_imp (pw_and (hf e i e4) ih) fun st H Q t => ?_
      refine tCB.mono (tCB.stepB (f := fun b sl h1 => match b with
        | true => tsAn ev (j :: js') sl h1
        | false => .ok false h1) t) fun b H1 t1 => ?_
      cases b with
      | true => rw [if_pos rfl]; exact t1
      | false =>
        rw [if_neg Bool.false_ne_true]
        obtain ⟨ia, sl, h, R, S, r, q⟩ := t1
        exact WantB.now q R
    · cases h
theorem dt_or {ev : IE → LS → LH → Res Bool} {f : Expr → Option IE} (hf : ∀ e ie, f e = some ie → PT X e (tOfB X.K ca W (ev ie))) : ∀ {es : List Expr} {is : List IE}, mapX f es = some is → PW X (.BoolOp .Or es pos) (tOfB X.K ca W (tsOr ev is))
  | [], is, h => by
    cases h
    exact ⟨fun wh pins s st H Q I t => by obtain ⟨_, _, _, _, _, _, w⟩ := t; exact (show False from w).elim⟩
  | [e], is, h => by
    unfold mapX at h
    split at h
    · rename_i i js e1 e2 e3
      cases h
      cases e3
      exact pw_or1 (hf e i e2)
    · cases h
  | e :: e2 :: es, is, h => by
    unfold mapX at h
    split at h
    · rename_i i js e1 e4 e3
      cases h
      have ih := dt_or hf e3
      have hjs : ∃ j js', js = j :: js' := by
        have l := (mapX_star e3).1
        cases js with
        | nil => cases l
        | cons j js' => exact ⟨j, js', rfl⟩
      obtain ⟨j, js', rfl⟩ := hjs
      refine pw_imp (pw_or (hf e i e4) ih) fun st H Q t => ?_
      refine tCB.mono (tCB.stepB (f := fun b sl h1 => match b with
        | true => .ok true h1
        | false => tsOr ev (j :: js') sl h1) t) fun b H1 t1 => ?_
      cases b with
      | true =>
        rw [if_pos rfl]
        obtain ⟨ia, sl, h, R, S, r, q⟩ := t1
        exact WantB.now q R
      | false => rw [if_neg Bool.false_ne_true]; exact t1
    · cases h
theorem dt_nt {mt : M Bool} (ha : PT X a (tOfB X.K ca W mt)) : PT X (.UnaryOp .Not a pos) (tOfB X.K ca W (fun sl h => (mt sl h).bind fun b h1 => .ok (!b) h1)) := by
  refine pt_imp (pt_not ha) fun st H Q t => ?_
  refine tCB.mono (tCB.stepB (f := fun b sl h1 => .ok (!b) h1) t) fun b H1 t1 => ?_
  obtain ⟨ia, sl, h, R, S, r, q⟩ := t1
  exact WantB.now q R
/-- a value that is True or False, as a test -/
theorem tst_val {m : M Val} {st : L2.St} {H : Hp} {Q : Bool → Hp → Prop} (t : tOfB X.K ca W (fun sl h => (m sl h).bind fun v h1 => match v with
    | .bl b => .ok b h1
    | _ => .bad) st H Q) : tOf X.K ca W m st H (fun x H1 => ∃ k, x = .bl k ∧ Q k H1) := by
  refine (tCB.step (f := fun v sl h1 => match v with
    | .bl b => .ok b h1
    | _ => .bad) t).mono fun x H1 ⟨v, t1⟩ => ?_
  obtain ⟨ia, sl, h, R, S, r, q⟩ := t1
  cases r with
  | cons rx _ =>
    dsimp only at q
    split at q
    · cases rx
      exact ⟨_, rfl, WantB.now q R⟩
    · exact (show False from q).elim
theorem dt_cmp {op : CmpOp} (hu : X.A.units + 65 < cLine) (hm : behindInMarks op b = false) (ha : PE X a (tOf X.K ca W ma)) (hb : PE X b (tOf X.K ca W mb)) :
    PT X (.Compare a [op] [b] pos) (tOfB X.K ca W (fun sl h => ((ma sl h).bind fun v h1 => (mb sl h1).bind fun w h2 => vCmp op v w h2).bind fun v h1 => match v with
    | .bl b => .ok b h1
    | _ => .bad)) := by
  refine pt_imp (pt_cmpR (cpv (ca := ca) hu op) ha hb hm) fun st H Q t => ?_
  have t' := tst_val (m := fun sl h => (ma sl h).bind fun v h1 => (mb sl h1).bind fun w h2 => vCmp op v w h2) t
  show tOf X.K ca W ma st H fun x H1 => tOf X.K ca W mb st H1 fun y H2 => rV2 X.K ca (vCmp op) x y H2 _
  refine (tC.step (f := fun v sl h1 => (mb sl h1).bind fun w h2 => vCmp op v w h2) t').mono fun x H1 ⟨v, t1⟩ => ?_
  refine (tC.step (f := fun w sl h2 => vCmp op v w h2) t1).mono fun y H2 ⟨w, t2⟩ => two t2
theorem dt_chn {op op' : CmpOp} (hu : X.A.units + 65 < cLine) (hm : lastMarks [op, op'] [b, c] = false) (ha : PE X a (tOf X.K ca W ma)) (hb : PE X b (tOf X.K ca W mb)) (hc : PE X c (tOf X.K ca W mc)) :
    PT X (.Compare a [op, op'] [b, c] pos) (tOfB X.K ca W (fun sl h => ((ma sl h).bind fun v h1 => (mb sl h1).bind fun w h2 => (vCmp op v w h2).bind fun z h3 => chnK z h3 fun h3 => (mc sl h3).bind fun u h4 => vCmp op' w u h4).bind fun v h1 => match v with
    | .bl b => .ok b h1
    | _ => .bad)) :=
  pt_imp (pt_chain (cpv (ca := ca) hu op) (cpv (ca := ca) hu op') ha hb hc hm) fun st H Q t => chn_read (tst_val (m := fun sl h => (ma sl h).bind fun v h1 => (mb sl h1).bind fun w h2 => (vCmp op v w h2).bind fun z h3 => chnK z h3 fun h3 => (mc sl h3).bind fun u h4 => vCmp op' w u h4) t)
/-- a value by its truth -/
theorem dt_tru (he : PE X e (tOf X.K ca W ma)) (hp : ∀ whole, isTrue e X.env whole = (do let v ← whole; standAt e.pos; holding [v] (truthy v))) :
    PT X e (tOfB X.K ca W (fun sl h => (ma sl h).bind fun v h1 => match truO v h1 with
    | some b => .ok b h1
    | none => .bad)) := by
  refine pt_imp (pt_truth he hp) fun st H Q t => ?_
  refine (tCB.step (f := fun v sl h1 => match truO v h1 with
    | some b => .ok b h1
    | none => .bad) t).mono fun x H1 ⟨v, t1⟩ => ?_
  obtain ⟨ia, sl, h, R, S, r, q⟩ := t1
  cases r with
  | cons rx _ =>
    dsimp only at q
    split at q
    · rename_i b eb
      exact ⟨b, truO_ok R eb rx, WantB.now q R⟩
    · exact (show False from q).elim
/-! ### displays with stars -/
theorem star_true {a : Expr} {p : Pos} {es : List Expr} : starEach (.Starred a p :: es) X.env = (true, eval a X.env) :: starEach es X.env := rfl
theorem cons_at {ml : M (List Val)} {v : Val} {x : V} {xs0 : List Val} {ys0 : List V} {st : L2.St} {H : Hp} {Q : List V → Hp → Prop} {ia : List Addr} {sl : LS} {h : LH} (R : Rep X.K ca ia H h) (S : RS X.K ia H sl st) (r0 : RVs X.K ia H xs0 ys0)
    (q : WantL X.K ca ia H ((ml sl h).bind fun vs h2 => .ok (xs0 ++ vs) h2) Q fun c d H' => W c d st H') : tOfL X.K ca W ml st H fun ys H' => Q (ys0 ++ ys) H' := by
  refine ⟨ia, sl, h, R, S, .nil, ?_⟩
  cases e : ml sl h with
  | bad => rw [e] at q; exact q
  | exc c v h' => rw [e] at q; exact q
  | ok vs h1 =>
    rw [e] at q
    exact fun ka H' ys g R' r' => q ka H' (ys0 ++ ys) g R' ((r0.grow g R).app r')
theorem d_mapS {f : Expr → Option IE} {ev : IE → LS → LH → Res Val} (hf : ∀ e ie, f e = some ie → PE X e (tOf X.K ca W (ev ie))) : ∀ {es : List Expr} {bs : List Bool} {is : List IE}, mapS f es = some (bs, is) → PA X es (tOfL X.K ca W (evS ev bs is))
  | [], bs, is, h => by
    cases h
    exact d_nil
  | e :: es, bs, is, h => by
    unfold mapS at h
    split at h
    · rename_i a p
      split at h
      · rename_i i bs' is' e1 e2
        cases h
        refine pa_imp (StX.pa_star (hf a i e1) (d_mapS hf e2) star_true) fun st H Q t => ?_
        refine (tCL.step (f := fun v sl h1 => match seqA v h1 with
          | some xs => (evS ev bs' is' sl h1).bind fun vs h2 => .ok (xs ++ vs) h2
          | none => .bad) t).mono fun x H1 ⟨v, t1⟩ => ?_
        obtain ⟨ia, sl, h, R, S, r, q⟩ := t1
        cases r with
        | cons rx _ =>
          dsimp only at q
          cases es : seqA v h with
          | none => rw [es] at q; exact (show False from q).elim
          | some xs =>
            rw [es] at q
            unfold seqA at es
            split at es
            · rename_i e3
              cases es
              obtain ⟨b, ys, rfl, hq, rq⟩ := seqL_ok R e3 rx
              exact ⟨b, ys, rfl, .inr hq, cons_at (v := v) (x := .ref b) R S rq q⟩
            · obtain ⟨b, ys, rfl, hq, rq⟩ := seqT_ok es rx
              exact ⟨b, ys, rfl, .inl hq, cons_at (v := v) (x := .ref b) R S rq q⟩
      · cases h
    · rename_i hne
      split at h
      · rename_i i bs' is' e1 e2
        cases h
        have hs : noStar e = true := by
          cases e <;> first | rfl | exact absurd rfl (hne _ _)
        refine pa_imp (pa_cons (hf e i e1) (d_mapS hf e2) (star_cons hs)) fun st H Q t => ?_
        refine (tCL.step (f := fun v sl h1 => (evS ev bs' is' sl h1).bind fun vs h2 => .ok (v :: vs) h2) t).mono fun x H1 ⟨v, t1⟩ => ?_
        obtain ⟨ia, sl, h, R, S, r, q⟩ := t1
        cases r with
        | cons rx _ => exact cons_at (v := v) (x := x) (xs0 := [v]) (ys0 := [x]) R S (.cons rx .nil) q
      · cases h
theorem d_spl {x1 : Nat} {ml : M (List Val)} (h : PA X es (tOfL X.K ca W ml)) : PE X (.Tuple es x1 pos) (tOf X.K ca W (fun sl h => (ml sl h).bind fun vs h1 => chk (decide (vs.length ≤ sizeLine)) (lsTp false vs h1))) := d_tp h
theorem d_splL {ml : M (List Val)} (h : PA X es (tOfL X.K ca W ml)) : PE X (.List es pos) (tOf X.K ca W (fun sl h => (ml sl h).bind fun vs h1 => chk (decide (vs.length ≤ sizeLine)) (lsTp true vs h1))) := d_ls h
/-! ### len(set(texts)) -/
theorem d_lset {p p2 pos2 : Pos} (hc : X.calm = true) (hg : Gl X "len") (hm : X.mg "len" = none) (hg2 : Gl X "set") (hm2 : X.mg "set" = none) (hst : noStar a = true) (ha : PE X a (tOf X.K ca W ma)) :
    PE X (.Call (.Name "len" p) [.Call (.Name "set" p2) [a] [] pos2] [] pos) (tOf X.K ca W (fun sl h => (ma sl h).bind fun v h1 => vOp .lset [v] h1)) := by
  refine pe_imp (pe_lst_set hc hg hm hg2 hm2 ha (star_cons hst)) fun st H Q t => ?_
  refine (tC.step (f := fun v sl h1 => vOp .lset [v] h1) t).mono fun x H1 ⟨v, t1⟩ => ?_
  obtain ⟨ia, sl, h, R, S, r, q⟩ := t1
  cases r with
  | cons rx _ =>
    dsimp only [vOp] at q
    split at q
    · rename_i xs e
      obtain ⟨c, q⟩ := chk_ok q
      obtain ⟨zs, e1, e2⟩ := Option.bind_eq_some_iff.mp e
      obtain ⟨b, ys, rfl, hq, rq⟩ := seqL_ok R e1 rx
      have ey := strsOf_ok e2 rq
      subst ey
      exact ⟨b, xs, rfl, hq, of_decide_eq_true c, q.now R (.int _)⟩
    · exact (show False from q).elim
/-! ### slices, list(range(n)) -/
theorem d_sl0 {p2 : Pos} (ha : PE X a (tOf X.K ca W ma)) : PE X (.Subscript a (.Slice none none none p2) pos) (tOf X.K ca W (fun sl h => (ma sl h).bind fun v h1 => vSl v none none h1)) := by
  refine pe_imp (pe_slice (sv_sl (ca := ca)) ha po_none po_none) fun st H Q t => ?_
  refine (tC.step (f := fun v sl h1 => vSl v none none h1) t).mono fun x H1 ⟨v, t1⟩ => ?_
  obtain ⟨ia, sl, h, R, S, r, q⟩ := t1
  cases r with
  | cons rx _ => exact ⟨ia, h, v, _, R, rx, q⟩
theorem d_sl1 {p2 : Pos} (ha : PE X a (tOf X.K ca W ma)) (hb : PE X b (tOf X.K ca W mb)) : PE X (.Subscript a (.Slice (some b) none none p2) pos) (tOf X.K ca W (fun sl h => (ma sl h).bind fun v h1 => (mb sl h1).bind fun x h2 => slI1 v x h2)) := by
  refine pe_imp (pe_slice (sv_sl (ca := ca)) ha (po_some hb) po_none) fun st H Q t => ?_
  refine (tC.step (f := fun v sl h1 => (mb sl h1).bind fun x h2 => slI1 v x h2) t).mono fun x H1 ⟨v, t1⟩ => ?_
  refine (tC.step (f := fun x sl h2 => slI1 v x h2) t1).mono fun y H2 ⟨w, t2⟩ => ?_
  obtain ⟨ia, sl, h, R, S, r, q⟩ := t2
  cases r with
  | cons ry r =>
    cases r with
    | cons rx _ =>
      dsimp only [slI1] at q
      split at q
      · cases ry
        exact ⟨_, rfl, ia, h, v, _, R, rx, q⟩
      · exact (show False from q).elim
theorem d_sl2 {p2 : Pos} (ha : PE X a (tOf X.K ca W ma)) (hb : PE X b (tOf X.K ca W mb)) : PE X (.Subscript a (.Slice none (some b) none p2) pos) (tOf X.K ca W (fun sl h => (ma sl h).bind fun v h1 => (mb sl h1).bind fun x h2 => slI2 v x h2)) := by
  refine pe_imp (pe_slice (sv_sl (ca := ca)) ha po_none (po_some hb)) fun st H Q t => ?_
  refine (tC.step (f := fun v sl h1 => (mb sl h1).bind fun x h2 => slI2 v x h2) t).mono fun x H1 ⟨v, t1⟩ => ?_
  refine (tC.step (f := fun x sl h2 => slI2 v x h2) t1).mono fun y H2 ⟨w, t2⟩ => ?_
  obtain ⟨ia, sl, h, R, S, r, q⟩ := t2
  cases r with
  | cons ry r =>
    cases r with
    | cons rx _ =>
      dsimp only [slI2] at q
      split at q
      · cases ry
        exact ⟨_, rfl, ia, h, v, _, R, rx, q⟩
      · exact (show False from q).elim
theorem d_sl3 {p2 : Pos} (ha : PE X a (tOf X.K ca W ma)) (hb : PE X b (tOf X.K ca W mb)) (hc : PE X c (tOf X.K ca W mc)) :
    PE X (.Subscript a (.Slice (some b) (some c) none p2) pos) (tOf X.K ca W (fun sl h => (ma sl h).bind fun v h1 => (mb sl h1).bind fun x h2 => intK x fun i => (mc sl h2).bind fun y h3 => intK y fun j => vSl v (some i) (some j) h3)) := by
  refine pe_imp (pe_slice (sv_sl (ca := ca)) ha (po_some hb) (po_some hc)) fun st H Q t => ?_
  refine (tC.step (f := fun v sl h1 => (mb sl h1).bind fun x h2 => intK x fun i => (mc sl h2).bind fun y h3 => intK y fun j => vSl v (some i) (some j) h3) t).mono fun x H1 ⟨v, t1⟩ => ?_
  refine (tC.step (f := fun x sl h2 => intK x fun i => (mc sl h2).bind fun y h3 => intK y fun j => vSl v (some i) (some j) h3) t1).mono fun y H2 ⟨w, t2⟩ => ?_
  obtain ⟨ia, sl, h, R, S, r, q⟩ := t2
  cases r with
  | cons ry r =>
    dsimp only [intK] at q
    split at q
    · rename_i i
      cases ry
      refine ⟨i, rfl, ?_⟩
      have t3 : tC X.K ca W [v] [x] (fun sl h => (mc sl h).bind fun y h3 => intK y fun j => vSl v (some i) (some j) h3) st H2 Q := ⟨ia, sl, h, R, S, r, q⟩
      refine (tC.step (f := fun y sl h3 => intK y fun j => vSl v (some i) (some j) h3) t3).mono fun z H3 ⟨u, t4⟩ => ?_
      obtain ⟨ia, sl, h, R, S, r, q⟩ := t4
      cases r with
      | cons rz r =>
        cases r with
        | cons rx _ =>
          dsimp only [intK] at q
          split at q
          · cases rz
            exact ⟨_, rfl, ia, h, v, _, R, rx, q⟩
          · exact (show False from q).elim
    · exact (show False from q).elim
theorem d_lrg {p p2 pos2 : Pos} (hc : X.calm = true) (hg : Gl X "list") (hm : X.mg "list" = none) (hg2 : Gl X "range") (hm2 : X.mg "range" = none) (hst : noStar a = true) (ha : PE X a (tOf X.K ca W ma)) :
    PE X (.Call (.Name "list" p) [.Call (.Name "range" p2) [a] [] pos2] [] pos) (tOf X.K ca W (fun sl h => (ma sl h).bind fun v h1 => match v with
    | .int n => chk (decide (-(2 ^ 62) ≤ n ∧ n < 2 ^ 62 ∧ n.toNat ≤ 2 ^ 24)) (newL ((List.range n.toNat).map fun (i : Nat) => Val.int (i : Int)) h1)
    | _ => .bad)) := by
  refine pe_imp (pe_listRg hc hg hm (prg_1 hg2 hm2 ha (star_cons hst))) fun st H Q t => ?_
  refine (tC.step (f := fun v sl h1 => match v with
    | .int n => chk (decide (-(2 ^ 62) ≤ n ∧ n < 2 ^ 62 ∧ n.toNat ≤ 2 ^ 24)) (newL ((List.range n.toNat).map fun (i : Nat) => Val.int (i : Int)) h1)
    | _ => .bad) t).mono fun x H1 ⟨v, t1⟩ => ?_
  obtain ⟨ia, sl, h, R, S, r, q⟩ := t1
  cases r with
  | cons rx _ =>
    dsimp only at q
    split at q
    · rename_i n
      cases rx
      obtain ⟨c, q⟩ := chk_ok q
      obtain ⟨c1, c2, c3⟩ := of_decide_eq_true c
      refine ⟨n, rfl, ⟨by decide, by decide, c1, c2, by omega⟩, ?_⟩
      have e : rgV 0 n = (List.range n.toNat).map fun (i : Nat) => V.int (i : Int) := by
        unfold rgV
        rw [Int.sub_zero]
        refine List.map_congr_left fun i _ => ?_
        simp
      rw [e]
      refine q.newL R ?_
      have : ∀ (l : List Nat), RVs X.K ia H1 (l.map fun (i : Nat) => Val.int (i : Int)) (l.map fun (i : Nat) => V.int (i : Int)) := by
        intro l
        induction l with
        | nil => exact .nil
        | cons i l ih => exact .cons (.int _) ih
      exact this _
    · exact (show False from q).elim
end
end Mi

set_option Elab.async false
set_option linter.all false
set_option maxRecDepth 100000
set_option maxHeartbeats 1000000
/-! D14: methods, calls, comprehensions, targets. -/
namespace Mi
open PySem L2 PyProof.Rows
/-- a def's promise, by its run -/
def spC (K : PySem.W.Frag) (ca : CaT) (f : List Val → LH → Res Val) : Sp := fun vs H Q E => ∃ (ia : List Addr) (h : LH) (args : List Val), Rep K ca ia H h ∧ RVs K ia H args vs ∧ Want K ca ia H (f args h) Q E
/-- an exception's wish that does not hang on the slots -/
abbrev wE (E : XK) : WS := fun c d _ H => E c d H
section
variable {X : Cx} {ca : CaT} {W : WS} {E : XK} {a b c e o : Expr} {es : List Expr} {pos : Pos} {ma mb mo : M Val} {ml : M (List Val)}
theorem okN_d {x : Str} (h : okN x = true) : (x == ("__debug__" : Str)) = false ∧ (x == ("__classdict__" : Str)) = false ∧ x ≠ "__name__" := by
  unfold okN at h
  simp only [Bool.and_eq_true, Bool.not_eq_true', decide_eq_false_iff_not] at h
  exact ⟨h.1.1, h.1.2, h.2⟩
theorem plain_base {n : Str} (h : plainO o = true) : attributeBase o n X.env (eval o X.env) = eval o X.env := by
  cases o with
  | Call f args kw p =>
    cases f with
    | Name y q =>
      cases args with
      | nil =>
        cases kw with
        | nil => cases h
        | cons _ _ => rfl
      | cons _ _ => rfl
    | _ => rfl
  | _ => rfl
theorem few_ok {cp : Pos} {es : List Expr} (hs : ∀ y ∈ es, noStar y = true) (hl : es.length < 29) :
    ((backTo cp (starEach es X.env)).all (fun x => !x.1) && (backToKw cp (keywordEach [] X.env)).all (fun x => x.1.isSome) && decide (es.length + ([] : List Keyword).length + (if ([] : List Keyword).isEmpty then 0 else 1) < 30)) = true := by
  have h1 : (backTo cp (starEach es X.env)).all (fun x => !x.1) = true := by
    induction es with
    | nil => rfl
    | cons e es ih =>
      rw [star_cons (hs e List.mem_cons_self)]
      show (true && (backTo cp (starEach es X.env)).all (fun x => !x.1)) = true
      rw [ih (fun y hy => hs y (List.mem_cons_of_mem _ hy)) (by simp at hl; omega)]
      rfl
  rw [h1]
  have h2 : decide (es.length + ([] : List Keyword).length + (if ([] : List Keyword).isEmpty then 0 else 1) < 30) = true := decide_eq_true (by simp; omega)
  rw [h2]
  rfl
theorem d_mth (hu : X.A.units + 1 < cLine) {m : Mt} {x : Str} {ap cp : Pos} (hx : x = mtName m) (hp : plainO o = true) (hl : (ap.endLine == cp.line) = true) (hst : ∀ y ∈ e :: es, noStar y = true) (hn : (e :: es).length < 29) (ho : PE X o (tOf X.K ca W mo)) (ha : PA X (e :: es) (tOfL X.K ca W ml)) :
    PE X (.Call (.Attribute o x ap) (e :: es) [] cp) (tOf X.K ca W (fun sl h => (mo sl h).bind fun v h1 => match okTy m v h1 with
    | true => (ml sl h1).bind fun vs h2 => vMt m v vs h2
    | false => .bad)) := by
  have key : ∀ st H Q, tOf X.K ca W (fun sl h => (mo sl h).bind fun v h1 => match okTy m v h1 with
    | true => (ml sl h1).bind fun vs h2 => vMt m v vs h2
    | false => .bad) st H Q → tBM X.K (mtT m) (rVM X.K ca m) (tOf X.K ca W mo) (tOfL X.K ca W ml) st H Q := by
    intro st H Q t
    refine (tC.step (f := fun v sl h1 => match okTy m v h1 with
      | true => (ml sl h1).bind fun vs h2 => vMt m v vs h2
      | false => .bad) t).mono fun x H1 ⟨v, t1⟩ => ?_
    obtain ⟨ia, sl, h, R, S, r, q⟩ := t1
    cases r with
    | cons rx _ =>
      dsimp only at q
      cases ek : okTy m v h with
      | false => rw [ek] at q; exact (show False from q).elim
      | true =>
        rw [ek] at q
        refine ⟨okTy_ok R rx ek, ?_⟩
        have t2 : tC X.K ca W [v] [x] (fun sl h => (ml sl h).bind fun vs h2 => vMt m v vs h2) st H1 Q := ⟨ia, sl, h, R, S, .cons rx .nil, q⟩
        obtain ⟨ia, sl, h, R, S, r, q⟩ := tC.stepL (f := fun vs sl h2 => vMt m v vs h2) t2
        refine ⟨ia, sl, h, R, S, r, ?_⟩
        cases e' : ml sl h with
        | bad => rw [e'] at q; exact q
        | exc c v h' => rw [e'] at q; exact q
        | ok vs h1 =>
          rw [e'] at q
          intro ka H' ys g R' r'
          obtain ⟨ws, ⟨ia2, sl2, h2, R2, S2, r2, q2⟩, hl⟩ := q ka H' ys g R' r'
          have sp : ∀ {a b : List Val} {c d : List V}, a.length = c.length → RVs X.K ia2 H' (a ++ b) (c ++ d) → RVs X.K ia2 H' a c ∧ RVs X.K ia2 H' b d := by
            intro a
            induction a with
            | nil =>
              intro b c d hl r
              cases c with
              | nil => exact ⟨.nil, r⟩
              | cons _ _ => cases hl
            | cons x a ih =>
              intro b c d hl r
              cases c with
              | nil => cases hl
              | cons y c =>
                cases r with
                | cons r1 r2 =>
                  obtain ⟨q1, q2⟩ := ih (by simpa using hl) r2
                  exact ⟨.cons r1 q1, q2⟩
          obtain ⟨z1, z2⟩ := sp hl r2
          cases z2 with
          | cons z2 _ => exact ⟨ia2, h2, v, ws, _, R2, z2, z1, q2⟩
  subst hx
  have hb := plain_base (X := X) (n := mtName m) hp
  have hf := few_ok (X := X) (cp := cp) hst hn
  have h3 := star_cons (X := X) (es := es) (hst e List.mem_cons_self)
  have h4 := star_none (X := X) (pos := cp) fun y hy => hst y (List.mem_cons_of_mem _ hy)
  cases m with
  | append => exact pe_imp (pe_bm PySem.F.plainAttrs_list PySem.F.slot_list_append PySem.F.type_list_append (mv_mt (ca := ca) hu .append) ho ha hb hf hl h3 h4) key
  | extend => exact pe_imp (pe_bm PySem.F.plainAttrs_list PySem.F.slot_list_extend PySem.F.type_list_extend (mv_mt (ca := ca) hu .extend) ho ha hb hf hl h3 h4) key
  | popAt => exact pe_imp (pe_bm PySem.F.plainAttrs_list PySem.F.slot_list_pop PySem.F.type_list_pop (mv_mt (ca := ca) hu .popAt) ho ha hb hf hl h3 h4) key
  | split => exact pe_imp (pe_bm PySem.F.plainAttrs_str PySem.F.slot_str_split PySem.F.type_str_split (mv_mt (ca := ca) hu .split) ho ha hb hf hl h3 h4) key
  | startsw => exact pe_imp (pe_bm PySem.F.plainAttrs_str PySem.F.slot_str_startswith PySem.F.type_str_startswith (mv_mt (ca := ca) hu .startsw) ho ha hb hf hl h3 h4) key
  | rmpre => exact pe_imp (pe_bm PySem.F.plainAttrs_str PySem.F.slot_str_removeprefix PySem.F.type_str_removeprefix (mv_mt (ca := ca) hu .rmpre) ho ha hb hf hl h3 h4) key
  | join => exact pe_imp (pe_bm PySem.F.plainAttrs_str PySem.F.slot_str_join PySem.F.type_str_join (mv_mt (ca := ca) hu .join) ho ha hb hf hl h3 h4) key
  | get2 => exact pe_imp (pe_bm PySem.F.plainAttrs_dict PySem.F.slot_dict_get PySem.F.type_dict_get (mv_mt (ca := ca) hu .get2) ho ha hb hf hl h3 h4) key
/-! ### the names of a target -/
theorem idx_ok {N : List Str} {x : Str} {i : Nat} (h : idx N x = some i) : N[i]? = some x := by
  unfold idx at h
  obtain ⟨hi, hp, _⟩ := List.findIdx?_eq_some_iff_getElem.mp h
  rw [List.getElem?_eq_getElem hi]
  exact congrArg some (of_decide_eq_true hp)
theorem assign_cons {e : Expr} {es : List Expr} (hs : noStar e = true) : assignEach (e :: es) X.env = (false, assign e X.env) :: assignEach es X.env := by
  cases e <;> first | rfl | cases hs
/-- what a target's names must be -/
structure TgOk (X : Cx) (N : List Str) (scL : Scope) : Prop where
  n : X.N = N
  nd : N.Nodup
  calm : X.calm = true
  loc : ∀ x, locB scL x = true → Loc X.env.scope x ∧ (X.fn x = true ∨ X.env.scope.names.lookup x = some .local)
mutual
theorem d_tg {N : List Str} {scL : Scope} (ok : TgOk X N scL) : ∀ {m : Nat} {e : Expr} {t : ITg}, trG N scL m e = some t → PG X e (gB X.K ca t)
  | 0, e, t, h => by cases h
  | m + 1, e, t, h => by
    unfold trG at h
    split at h
    · split at h
      · rename_i x p hl
        obtain ⟨i, e1, e2⟩ := Option.map_eq_some_iff.mp h
        subst e2
        obtain ⟨l1, l2⟩ := ok.loc x hl
        exact pg_imp (pg_name (by rw [ok.n]; exact ok.nd) (by rw [ok.n]; exact idx_ok e1) l1 l2) fun v st H Q q => gB_nm q
      · cases h
    · rename_i es k p
      obtain ⟨ts, e1, e2⟩ := Option.map_eq_some_iff.mp h
      subst e2
      obtain ⟨hp, hl, hst⟩ := d_tgs ok e1
      exact pg_imp (pg_tup ok.calm hp rfl hst) fun v st H Q q => gB_tp hl q
    · cases h
theorem d_tgs {N : List Str} {scL : Scope} (ok : TgOk X N scL) : ∀ {m : Nat} {es : List Expr} {ts : List ITg}, trGs N scL m es = some ts → PGs X es (gBs X.K ca ts) ∧ ts.length = (assignEach es X.env).length ∧ (assignEach es X.env).findIdx? (·.1) = none
  | m, [], ts, h => by
    cases m with
    | zero => cases h; exact ⟨pgs_imp pgs_nil fun v st H Q q => gBs_nil q, rfl, rfl⟩
    | succ m => cases h; exact ⟨pgs_imp pgs_nil fun v st H Q q => gBs_nil q, rfl, rfl⟩
  | 0, e :: es, ts, h => by cases h
  | m + 1, e :: es, ts, h => by
    unfold trGs at h
    split at h
    · rename_i t ts' e1 e2 e3
      cases h
      have h1 := d_tg ok e2
      obtain ⟨h2, hl, hst⟩ := d_tgs ok e3
      have ha := assign_cons (X := X) (es := es) e1
      refine ⟨pgs_imp (pgs_cons h1 h2 (by rw [ha]; rfl)) fun v st H Q q => gBs_cons q, by rw [ha]; simp [hl], ?_⟩
      rw [ha, List.findIdx?_cons]
      simp [hst]
    · cases h
end
end
end Mi

set_option Elab.async false
set_option linter.all false
set_option maxRecDepth 100000
set_option maxHeartbeats 1000000
/-! D15: sources of loops; a comprehension. -/
namespace Mi
open PySem L2 PyProof.Rows
/-- what the module's names must be -/
structure GOk (g : Glo) (K : PySem.W.Frag) (mg : Str → Option Value) : Prop where
  val : ∀ x v, g.lookup x = some (.val v) → ∃ w u, mg x = some u ∧ RelV w u ∧ ∀ ia H, RV K ia H v w
  blt : ∀ x, g.lookup x = some .blt → mg x = none
section
variable {X : Cx} {ca : CaT} {W : WS} {g : Glo} {sc : Scope}
theorem pi_imp {tg e : Expr} {t t' : TI} (h : PI X tg e t) (k : ∀ st H Q, t' st H Q → t st H Q) : PI X tg e t' := ⟨fun pins s st H R I q => h.run pins s st H R I (k st H R q)⟩
theorem glob_of (hs : X.env.scope = sc) {x : Str} (h : gloB sc x = true) : Gl X x := by
  unfold gloB at h
  split at h
  · rename_i e
    show X.env.scope.names.lookup x = some .globalImplicit
    rw [hs]
    exact e
  · cases h
theorem vis_of (hs : X.env.scope = sc) {x : Str} (h : visB sc x = true) : Vis X.env.scope x := by
  unfold visB at h
  rw [hs]
  split at h
  · exact .inl (by assumption)
  · exact .inr (.inl (by assumption))
  · exact .inr (.inr (by assumption))
  · cases h
theorem blt_of (hs : X.env.scope = sc) (G : GOk g X.K X.mg) {x : Str} (h : isBlt g sc x = true) : Gl X x ∧ X.mg x = none := by
  obtain ⟨h1, h2⟩ := Bool.and_eq_true_iff.mp h
  refine ⟨glob_of hs h1, ?_⟩
  split at h2
  · rename_i e
    exact G.blt x e
  · cases h2
theorem evL_one {ev : IE → LS → LH → Res Val} {i : IE} {st : L2.St} {H : Hp} {Q : List V → Hp → Prop} (t : tOfL X.K ca W (evL ev [i]) st H Q) : tOf X.K ca W (ev i) st H (fun x H1 => Q [x] H1) := by
  obtain ⟨ia, sl, h, R, S, r, q⟩ := t
  refine ⟨ia, sl, h, R, S, r, ?_⟩
  have e : evL ev [i] sl h = (ev i sl h).bind fun v h1 => .ok [v] h1 := rfl
  rw [e] at q
  cases e2 : ev i sl h with
  | bad => rw [e2] at q; exact q
  | exc c v h' => rw [e2] at q; exact q
  | ok v h1 =>
    rw [e2] at q
    exact fun ka H' x g R' r' => q ka H' [x] g R' (.cons r' .nil)
theorem src_seq {tg e : Expr} {ev : IE → LS → LH → Res Val} {i : IE} (he : PE X e (tOf X.K ca W (ev i))) : PI X tg e (tSrc X.K ca W (srcM 0 (evL ev [i]))) := by
  refine pi_imp (pi_seq he) fun st H R t => ?_
  refine tC.mono (evL_one (tSrc.parts t)) fun x H1 ⟨ia, h, vs, s, Re, rv, ms, q⟩ => ?_
  cases rv with
  | cons rx rv =>
    cases rv
    rename_i v
    have ms' : mkS0 [v] h = some s := ms
    clear ms
    unfold mkS0 at ms'
    dsimp only at ms'
    split at ms'
    · cases ms'
      cases rx
      exact .inr ⟨_, rfl, q _ rfl⟩
    split at ms'
    · rename_i hs
      cases ms'
      rcases (Bool.or_eq_true _ _).mp hs with hs | hs
      · obtain ⟨xs, e1⟩ := Option.isSome_iff_exists.mp hs
        obtain ⟨a, ys, rfl, hq, _⟩ := seqL_ok Re e1 rx
        refine .inl ⟨a, rfl, .inl ⟨⟨ys, hq⟩, q _ ⟨a, rx, .inl ⟨?_, rfl⟩⟩⟩⟩
        cases v <;> first | rfl | cases e1
      · obtain ⟨xs, e1⟩ := Option.isSome_iff_exists.mp hs
        obtain ⟨a, ys, rfl, hq, _⟩ := seqT_ok e1 rx
        refine .inl ⟨a, rfl, .inr ⟨⟨ys, hq⟩, q _ ⟨a, rx, .inr ⟨?_, rfl⟩⟩⟩⟩
        cases v <;> first | rfl | cases e1
    · cases ms'
theorem isT_of {v : Val} (e : (seqT v).isSome = true) : isT v = true := by
  cases v <;> first | rfl | cases e
theorem isL_of {v : Val} {h : LH} (e : (seqL v h).isSome = true) : isL v = true := by
  cases v <;> first | rfl | cases e
theorem d_src {f : Expr → Option IE} {ev : IE → LS → LH → Res Val} (hs : X.env.scope = sc) (G : GOk g X.K X.mg) (hf : ∀ e ie, f e = some ie → PE X e (tOf X.K ca W (ev ie))) {tg iter : Expr} {k : Nat} {es : List IE}
    (h : trI g sc f tg iter = some (k, es)) : PI X tg iter (tSrc X.K ca W (srcM k (evL ev es))) := by
  have seq : (f iter).map (fun i => (0, [i])) = some (k, es) → PI X tg iter (tSrc X.K ca W (srcM k (evL ev es))) := by
    intro z
    obtain ⟨i, e1, e2⟩ := Option.map_eq_some_iff.mp z
    cases e2
    exact src_seq (hf iter i e1)
  unfold trI at h
  split at h
  · rename_i x p a p2
    split at h
    · rename_i hx
      subst hx
      split at h
      · rename_i hb
        obtain ⟨hb, hst⟩ := Bool.and_eq_true_iff.mp hb
        obtain ⟨hg, hm⟩ := blt_of hs G hb
        obtain ⟨i, e1, e2⟩ := Option.map_eq_some_iff.mp h
        cases e2
        have hst' := star_cons (X := X) (es := []) hst
        refine pi_imp (pi_range1 hg hm (d_cons hst (hf a i e1) d_nil) hst') fun st H R t => ?_
        refine tCL.mono (tSrc.parts (m := evL ev [i]) t) fun xs H1 ⟨ia, h, vs, s, Re, rv, ms, q⟩ => ?_
        have ms' : mkS1 vs = some s := ms
        unfold mkS1 at ms'
        split at ms'
        · rename_i j
          obtain ⟨y, rfl, r1⟩ := rvs1 rv
          cases r1
          split at ms'
          · rename_i hj
            cases ms'
            exact ⟨j, rfl, hj.1, hj.2, q _ rfl⟩
          · cases ms'
        · cases ms'
      · cases h
    · split at h
      · rename_i hx
        subst hx
        split at h
        · rename_i hb
          obtain ⟨hb, ht⟩ := Bool.and_eq_true_iff.mp hb
          obtain ⟨hb, hst⟩ := Bool.and_eq_true_iff.mp hb
          obtain ⟨hg, hm⟩ := blt_of hs G hb
          obtain ⟨i, e1, e2⟩ := Option.map_eq_some_iff.mp h
          cases e2
          have hst' := star_cons (X := X) (es := []) hst
          cases tg with
          | Tuple elts kk tp =>
            refine pi_imp (pi_enum hg hm (d_cons hst (hf a i e1) d_nil) hst') fun st H R t => ?_
            refine tCL.mono (tSrc.parts (m := evL ev [i]) t) fun xs H1 ⟨ia, h, vs, s, Re, rv, ms, q⟩ => ?_
            have ms' : mkS3 vs h = some s := ms
            unfold mkS3 at ms'
            split at ms'
            · rename_i v
              obtain ⟨y, rfl, r1⟩ := rvs1 rv
              split at ms'
              · rename_i hj
                cases ms'
                obtain ⟨zs, e1⟩ := Option.isSome_iff_exists.mp hj
                obtain ⟨b, ys, rfl, hq, _⟩ := seqL_ok Re e1 r1
                exact ⟨b, ys, rfl, hq, q _ ⟨b, r1, isL_of hj, rfl⟩⟩
              · cases ms'
            · cases ms'
          | _ => cases ht
        · cases h
      · exact seq h
  · rename_i x p a b p2
    split at h
    · rename_i hx
      subst hx
      split at h
      · rename_i hb
        obtain ⟨hb, hst2⟩ := Bool.and_eq_true_iff.mp hb
        obtain ⟨hb, hst⟩ := Bool.and_eq_true_iff.mp hb
        obtain ⟨hg, hm⟩ := blt_of hs G hb
        split at h
        · rename_i i j e1 e2
          cases h
          have h1 := star_cons (X := X) (es := [b]) hst
          have h2 := star_cons (X := X) (es := []) hst2
          refine pi_imp (pi_range2 hg hm (d_cons hst (hf a i e1) (d_cons hst2 (hf b j e2) d_nil)) (by rw [h1, h2]; rfl) h2) fun st H R t => ?_
          refine tCL.mono (tSrc.parts (m := evL ev [i, j]) t) fun xs H1 ⟨ia, h, vs, s, Re, rv, ms, q⟩ => ?_
          have ms' : mkS2 vs = some s := ms
          unfold mkS2 at ms'
          split at ms'
          · obtain ⟨y, z, rfl, r1, r2⟩ := rvs2 rv
            cases r1; cases r2
            split at ms'
            · rename_i hj
              cases ms'
              exact ⟨_, _, rfl, hj, q _ rfl⟩
            · cases ms'
          · cases ms'
        · cases h
      · cases h
    · split at h
      · rename_i hx
        subst hx
        split at h
        · rename_i hb
          obtain ⟨hb, ht⟩ := Bool.and_eq_true_iff.mp hb
          obtain ⟨hb, hst2⟩ := Bool.and_eq_true_iff.mp hb
          obtain ⟨hb, hst⟩ := Bool.and_eq_true_iff.mp hb
          obtain ⟨hg, hm⟩ := blt_of hs G hb
          split at h
          · rename_i i j e1 e2
            cases h
            have h1 := star_cons (X := X) (es := [b]) hst
            have h2 := star_none (X := X) (pos := p2) (es := [b]) fun y hy => by
              have e : y = b := by simpa using hy
              rw [e]; exact hst2
            cases tg with
            | Tuple elts kk tp =>
              refine pi_imp (RZ.pi_zipA hg hm (d_cons hst (hf a i e1) (d_cons hst2 (hf b j e2) d_nil)) h1 h2) fun st H R t => ?_
              refine tCL.mono (tSrc.parts (m := evL ev [i, j]) t) fun xs H1 ⟨ia, h, vs, s, Re, rv, ms, q⟩ => ?_
              have ms' : mkS4 vs h = some s := ms
              unfold mkS4 at ms'
              split at ms'
              · rename_i v w
                obtain ⟨y, z, rfl, r1, r2⟩ := rvs2 rv
                split at ms'
                · rename_i hj
                  cases ms'
                  obtain ⟨hj1, hj2⟩ := Bool.and_eq_true_iff.mp hj
                  obtain ⟨zs, e1⟩ := Option.isSome_iff_exists.mp hj1
                  obtain ⟨zs2, e12⟩ := Option.isSome_iff_exists.mp hj2
                  obtain ⟨b1, ys, rfl, hq, _⟩ := seqL_ok Re e1 r1
                  obtain ⟨b2, ys2, rfl, hq2, _⟩ := seqL_ok Re e12 r2
                  exact ⟨b1, b2, ys, ys2, rfl, .inl ⟨hq, hq2, q _ ⟨b1, b2, r1, r2, isL_of hj1, isL_of hj2, rfl⟩⟩⟩
                · split at ms'
                  · rename_i hj
                    cases ms'
                    obtain ⟨hj1, hj2⟩ := Bool.and_eq_true_iff.mp hj
                    obtain ⟨zs, e1⟩ := Option.isSome_iff_exists.mp hj1
                    obtain ⟨zs2, e12⟩ := Option.isSome_iff_exists.mp hj2
                    obtain ⟨b1, ys, rfl, hq, _⟩ := seqT_ok e1 r1
                    obtain ⟨b2, ys2, rfl, hq2, _⟩ := seqT_ok e12 r2
                    exact ⟨b1, b2, ys, ys2, rfl, .inr ⟨hq, hq2, q _ ⟨b1, b2, r1, r2, isT_of hj1, isT_of hj2, rfl⟩⟩⟩
                  · cases ms'
              · cases ms'
            | _ => cases ht
          · cases h
        · cases h
      · exact seq h
  · split at h
    · exact seq h
    · cases h
/-! ### a comprehension -/
theorem d_lc {G : Prg} {n d : Nat} {tg : ITg} {tge iter elt : Expr} {ifs : List Expr} {scope : Scope} {own : List (Str × Nat)} {pos : Pos} {k : Nat} {iifs : List IE} {ielt : IE} {mS : M (List Val)}
    (hc : X.calm = true) (hN : X.N.Nodup) (ok : BlkOk X.N X.env.scope scope own) (hown : ∀ i ∈ slots tg, i ∈ own.map (·.2)) (hset : noSet iter = true)
    (hi : PI X tge iter (tSrc X.K ca W (srcM k mS)))
    (hg : ∀ (s : Shared) (H : Hp) (C : Addr) (cl : List (Str × Addr)) (fp : List Addr), PG (X.blk s H scope (compEnvC scope cl C X.env) fp) tge (gB X.K ca tg))
    (ht : ∀ m, m ≤ n → ∀ (s : Shared) (H : Hp) (C : Addr) (cl : List (Str × Addr)) (fp : List Addr), PTs (X.blk s H scope (compEnvC scope cl C X.env) fp) ifs (tOfB X.K ca W0 (tsIf ((run G m).t d) iifs)))
    (he : ∀ m, m ≤ n → ∀ (s : Shared) (H : Hp) (C : Addr) (cl : List (Str × Addr)) (fp : List Addr), PE (X.blk s H scope (compEnvC scope cl C X.env) fp) elt (tOf X.K ca W0 ((run G m).e d ielt))) :
    PE X (.ListComp elt [⟨tge, iter, ifs, 0⟩] scope pos) (tOf X.K ca W (fun sl h => (mS sl h).bind fun vs h1 => match mkSrc k vs h1 with
      | some s => (run G n).l d tg iifs ielt (own.map (·.2)) s 0 h1.length (wipeL sl (own.map (·.2))) (h1 ++ [.lst []])
      | none => .bad)) := by
  refine pe_imp (pe_lc (g := gB X.K ca tg) (tt := fun st H Q => ∃ m, m ≤ n ∧ tOfB X.K ca W0 (tsIf ((run G m).t d) iifs) st H Q) (te := fun st H Q => ∃ m, m ≤ n ∧ tOf X.K ca W0 ((run G m).e d ielt) st H Q) hc hN hi ok hg
    (fun s H C cl fp => ⟨fun pins s' st H' Q I ⟨m, hm, t⟩ => (ht m hm s H C cl fp).run pins s' st H' Q I t⟩) (fun s H C cl fp => ⟨fun pins s' st H' Q I ⟨m, hm, t⟩ => (he m hm s H C cl fp).run pins s' st H' Q I t⟩) ?_) fun st H Q t => lc_read mS hown t
  intro x
  cases iter <;> first | rfl | cases hset
end
end Mi

set_option Elab.async false
set_option linter.all false
set_option maxRecDepth 100000
set_option maxHeartbeats 2000000
/-! E1: an own exception over ValueError whose __init__ says super().__init__(value); self.value = value. -/
namespace Mi
open PySem PySem.W PySem.Calls PyProof.Rows
/-- the body of such an __init__ -/
def initBody (p0 p1 p2 p3 p4 p5 p6 p7 p8 p9 : Pos) : List Stmt :=
  [.Expr (.Call (.Attribute (.Call (.Name "super" p0) [] [] p1) "__init__" p2) [.Name "value" p3] [] p4) p5, .Assign [.Attribute (.Name "self" p6) "value" p7] (.Name "value" p8) p9]
/-- what the written part says of the class at C and of its __init__ at fI (written in the class at D) -/
structure ErrC (prog : Program) (K : Frag) (C fI D : Addr) : Prop where
  oex : L2.OexC K C
  init : findIn K (.ref C) "__init__" = some (some (.ref fI))
  tI : typeIn K (.ref fI) = some (.type "function")
  fn : ∃ (oc : Value) (od : Option Addr) (qual : Str) (params : Arguments) (scope : Scope) (kV doc pm : Value) (an : Option Addr) (ct : Value) (cc cda : Addr) (osl : Array (Option Value)) (p0 p1 p2 p3 p4 p5 p6 p7 p8 p9 : Pos),
    K.lookup fI = some ⟨oc, od, .func (ksFn "__init__" qual params (initBody p0 p1 p2 p3 p4 p5 p6 p7 p8 p9) scope .none kV doc pm an (.ref cda) ct cc), osl⟩ ∧ codeIn K (.ref cda) qual = true ∧
    (∀ a b : Value, bindArgs (ksFn "__init__" qual params (initBody p0 p1 p2 p3 p4 p5 p6 p7 p8 p9) scope .none kV doc pm an (.ref cda) ct cc) ⟨[a, b], []⟩ = pure [(("self" : Str), a), (("value" : Str), b)]) ∧
    (∃ ar, (params.posonlyargs ++ params.args).head? = some ar ∧ ar.arg = "self") ∧
    (∃ ccl cdd vs ccs file tf, K.lookup cda = some ⟨ccl, cdd, .fields vs, ccs⟩ ∧ vs[2]? = some (.str file tf) ∧ ((prog.main.file : Str) == file) = true) ∧
    (∃ cl cld csl, K.lookup cc = some ⟨cl, cld, .cell (some (.ref D)), csl⟩) ∧ (∃ cdD, clsIn K D = some cdD) ∧
    (∀ y ∈ scope.names, y.2 ≠ .cell) ∧ scope.isCoroutine = false ∧ scope.isGenerator = false ∧ scope.kind = .function ∧
    scope.names.lookup ("super" : Str) = some .globalImplicit ∧ scope.names.lookup ("__class__" : Str) = some .free ∧ scope.names.lookup ("self" : Str) = some .local ∧ scope.names.lookup ("value" : Str) = some .local ∧ (p2.endLine == p4.line) = true
  sub : mroIn K C (.ref D) = some true
  sup : nsIn K mainGlobals "super" = some none
  opq : nsIn K cStatics "thirdparty.any" = some none
  sin : ks_superIn K C D "__init__" = some (some (.builtin "ValueError.__init__"))
  ve : subIn K (.ref C) (.type "ValueError") = some true
  fld : findIn K (.ref C) "value" = some none
  top : (prog.main.scope.names.lookup ("super" : Str)).isSome = false
section
variable {prog : Program} {w : World} {K : Frag} {C fI D : Addr} {A : Around} {E : Value → Shared → Prop} {mg mb : Str → Option Value}
/-- ValueError.__init__ bound to the object at e, called -/
theorem call_mw {h : Heap} {g : Array GenState} {d : Drawn} {tk : Nat} {os : OsState} {u e t0 : Addr} {rest : List Value} {Q : Value → Shared → Prop} (T : L2.OexC K C) (X : K.In h) (hu : h.get? u = some (kxs_mw "ValueError.__init__" e)) (he : h.get? e = some (HandSPX.excO C t0)) (hz : rest.length ≤ sizeLine)
    (hq : ∀ h' t1, (∀ b o, b ≠ e → h.get? b = some o → h'.get? b = some o) → h'.get? e = some (HandSPX.excO C t1) → Q .none ⟨h', g, d, tk, os⟩) : wpAny (model prog w) A (call (.ref u) rest) Q E ⟨h, g, d, tk, os⟩ := by
  obtain ⟨nm, q, N, bs, bm, sn, sub, ab, col, dd, k0, k1, k2, k3, k5, hC, hbm⟩ := T.cls
  refine wpAny_call (codeAny_of_tree ?_)
  show wpAny _ A.in1 (callAny (.ref u) ⟨rest, []⟩) _ _ _
  simp only [callAny]
  refine wpAny_bind (wpAny_load hu ?_)
  simp only [kxs_mw, show (Value.type "method-wrapper" == Value.type "method" || Value.type "method-wrapper" == Value.type "builtin_function_or_method" || Value.type "method-wrapper" == Value.type "method-wrapper") = true by decide, if_true]
  refine KFB.if_so (by decide) ?_
  refine wpAny_bind (check_bound_init F.excBase_ValueError.toExcCallFacts (X _ _ hC) he rfl ?_)
  refine wpAny_bind (wpAny_pure (wpAny_pure ?_))
  refine ⟨plainId_quiet F.excBase_ValueError.init.plain _, codeAny_builtin F.excBase_ValueError.initEntry ?_⟩
  exact exc_init_tree (cls := .ref C) (t0 := t0) (dv := none) (c2 := .none) (c3 := .none) (b4 := .bool false) he hz fun h' k e' _ => hq h' _ k e'
/-- such an __init__ runs -/
theorem err_init (T : ErrC prog K C fI D) {s : Shared} {e t0 : Addr} {u : Value} {R : Result → Shared → Prop} (X : K.In s.heap) (hr : A.depth < recursionLimit) (lim : s.heap.NoLimit) (hg : s.heap.Ns mainGlobals mg) (hb : s.heap.Ns builtinsNs mb) (hbb : ∀ x : Str, x ≠ "__name__" → mb x = bootBuiltins x)
    (he : s.heap.get? e = some (HandSPX.excO C t0)) (ek : K.lookup e = none)
    (hq : ∀ h' tk dx t1, (∀ b o, b ≠ e → s.heap.get? b = some o → h'.get? b = some o) → s.heap.objs.size ≤ dx → dx ≠ e → h'.get? e = some { cls := .ref C, dict := some dx, data := .fields #[.ref t1, .none, .none, .none, .bool false, .none] } →
      h'.Ns1 dx (fun y => if y = ("value" : Str) then some u else none) → R (.ok (.ret .none)) { s with heap := h', toks := tk }) :
    codeAny (model prog w) A (.call (.ref fI) ⟨[.ref e, u], []⟩) R s := by
  obtain ⟨oc, od, qual, params, scope, kV, doc, pm, an, ct, cc, cda, osl, p0, p1, p2, p3, p4, p5, p6, p7, p8, p9, lk, hcd, hbi, ⟨ar, har, har2⟩, ⟨ccl, cdd, vs, ccs, file, tf, hcode, hvs, hfile⟩, ⟨cl, cld, csl, hcell⟩, ⟨cdD, hD⟩, nocell, hco, hgen, hk, ns, nc, nse, nv, hline⟩ := T.fn
  obtain ⟨nm, q, N, bs, bm, sn, sub, ab, col, dd, k0, k1, k2, k3, k5, hC, hbm⟩ := T.oex.cls
  have hcl : clsIn K C = some { name := nm, bases := bs, mro := .ref C :: bm, ns := N, qualname := q, hasDict := true, slotNames := sn, subclasses := sub, abstract := ab, collection := col, hasDel := false } := by unfold clsIn; rw [hC] <;> rfl
  refine ks_codeAny_call_defAt (fd := ksFn "__init__" qual params (initBody p0 p1 p2 p3 p4 p5 p6 p7 p8 p9) scope .none kV doc pm an (.ref cda) ct cc) (body := initBody p0 p1 p2 p3 p4 p5 p6 p7 p8 p9) (binds := [("self", .ref e), ("value", u)]) hr (X _ _ lk) rfl lim (codeRec_of X hcd) rfl (.of_eq (hbi _ _)) nocell (fun y hy => ?_) (fun h1 hns1 k1' => ?_) hco hgen hk
  · rcases List.mem_cons.mp hy with rfl | hy
    · exact nse
    · rcases List.mem_cons.mp hy with rfl | hy
      · exact nv
      · cases hy
  · have X1 : K.In h1 := X.keeps k1'
    have he1 := k1' _ _ he
    obtain ⟨oD, hD1, hD2⟩ : ∃ oD, h1.get? D = some oD ∧ oD.data = .cls cdD := by
      unfold clsIn at hD
      split at hD
      · rename_i c d cd' sl ho
        cases hD
        exact ⟨_, X1 _ _ ho, rfl⟩
      · cases hD
    have hLe : s.heap.objs.size ≠ e := fun z => by
      have y := Heap.lt_size he
      rw [← z] at y
      exact absurd y (Nat.lt_irrefl _)
    obtain ⟨env, henv⟩ : ∃ env, env = callEnv (ksFn "__init__" qual params (initBody p0 p1 p2 p3 p4 p5 p6 p7 p8 p9) scope .none kV doc pm an (.ref cda) ct cc) s.heap.objs.size fI := ⟨_, rfl⟩
    have hev : eval (.Call (.Attribute (.Call (.Name "super" p0) [] [] p1) "__init__" p2) [.Name "value" p3] [] p4) env = (do
        let ov ← attributeBase (.Call (.Name "super" p0) [] [] p1) "__init__" env (eval (.Call (.Name "super" p0) [] [] p1) env)
        standAt p2.atName
        let (f, first) ← holding [ov] (getMethod ov "__init__" (L2.plainOf (.Call (.Name "super" p0) [] [] p1) env))
        callWith p4 f first (backTo p4 (starEach [.Name "value" p3] env)) []) := by
      have e1 : ∀ ov, methodCall (.Call (.Name "super" p0) [] [] p1) "__init__" p2 p4 env ov 1 (backTo p4 (starEach [.Name "value" p3] env)) [] = (do
        let (f, first) ← holding [ov] (getMethod ov "__init__" (L2.plainOf (.Call (.Name "super" p0) [] [] p1) env))
        callWith p4 f first (backTo p4 (starEach [.Name "value" p3] env)) []) := fun ov => L2.mcall_line rfl hline
      show (do
        let ov ← attributeBase (.Call (.Name "super" p0) [] [] p1) "__init__" env (eval (.Call (.Name "super" p0) [] [] p1) env)
        standAt p2.atName
        methodCall (.Call (.Name "super" p0) [] [] p1) "__init__" p2 p4 env ov 1 (backTo p4 (starEach [.Name "value" p3] env)) []) = _
      simp only [e1]
    refine ks_wpAt_execs_cons (ks_wpAt_Expr_any (ks_wpAt_MethodCall ?_ (by rw [← henv]; exact hev)) (by show (scope.kind == .module && _) = false; rw [hk]; rfl))
    refine ks_wpAt_super_base (env := callEnv (ksFn "__init__" qual params (initBody p0 p1 p2 p3 p4 p5 p6 p7 p8 p9) scope .none kV doc pm an (.ref cda) ct cc) s.heap.objs.size fI) ns nc (by decide) rfl (X1 _ _ lk) rfl har rfl (X1 _ _ hcode) rfl hvs hfile T.top ?_
    refine ks_loadName_global hk ns (loadGlobal_builtin (hg.keeps k1') (mg_none_of X hg T.sup) (hb.keeps k1') ((hbb _ (by decide +kernel)).trans (by decide +kernel : bootBuiltins "super" = some (.type "super"))) ⟨rfl, ?_⟩)
    refine wpAny_loadName_free hk nc rfl ⟨_, X1 _ _ hcell, rfl⟩ ?_
    rw [har2]
    refine wpAny_loadName_local hk nse hns1 rfl ?_
    refine ks_wpAny_isType_cls hD1 hD2 ⟨rfl, ?_⟩
    refine ks_wpAny_call_super hD1 hD2 he1 rfl (fun c z => by cases z) (looks_mroIn X1 T.sub) (fun h2 e2 k2' => ?_)
    have X2 : K.In h2 := X1.keeps k2'
    have he2 := k2' _ _ he1
    have sin := T.sin
    unfold ks_superIn at sin
    rw [hcl] at sin
    have I2 : InstAt h2 e (HandSPX.excO C t0) C none := ⟨he2, rfl, rfl, trivial⟩
    refine kxs_getMethod kxs_ValueError e2 (looks_opaque X2 T.opq) (l₀ := .ref C :: bm) (fun A Q E s k q => wpAny_bind ((looks_clsIn X2 hcl) A _ E s k (wpAny_pure q))) rfl X2 sin (I2.type.andThen (looks_subIn X2 T.ve)) (ks_ne X2 I2 hcl) (by decide) ?_
    have hu2 : (h2.push (kxs_mw "ValueError.__init__" e)).get? h2.objs.size = some (kxs_mw "ValueError.__init__" e) := Heap.get?_push_at rfl rfl
    have k3' : ∀ b o, h2.get? b = some o → (h2.push (kxs_mw "ValueError.__init__" e)).get? b = some o := fun b o q => Heap.get?_push_of_some _ q
    have X3 : K.In (h2.push (kxs_mw "ValueError.__init__" e)) := X2.keeps k3'
    have hns3 : (h2.push (kxs_mw "ValueError.__init__" e)).Ns s.heap.objs.size (fun x => List.lookup x [(("self" : Str), Value.ref e), (("value" : Str), u)].reverse) := (hns1.keeps k2').keeps k3'
    refine kxs_callWith (i := "ValueError.__init__") (x := e) rfl (evalArgs_plain ?_)
    show wpAny _ _ (spliced [(false, eval (.Name "value" p3) _)]) _ _ _
    refine spliced_cons (wpAny_Name (wpAny_loadName_local hk nv hns3 rfl ?_) (by decide))
    refine spliced_nil ⟨hu2, ?_⟩
    refine call_mw T.oex X3 hu2 (k3' _ _ he2) (show 1 ≤ sizeLine by decide) fun h4 t1 k4 he4 => ?_
    have hns4 : h4.Ns s.heap.objs.size (fun x => List.lookup x [(("self" : Str), Value.ref e), (("value" : Str), u)].reverse) := by
      obtain ⟨o, es, ep, z, r⟩ := hns3
      exact ⟨o, es, ep, k4 _ _ hLe z, r⟩
    have X4 : K.In h4 := fun b o z => k4 b o (fun y => by
      have q1 : K.lookup b = some o := z
      rw [y, ek] at q1
      cases q1) (X3 _ _ z)
    refine ks_wpAt_execs_cons (ks_wpAt_Assign_Attr ?_ rfl)
    refine wpAt_of_wpAny (wpAny_Name (wpAny_loadName_local hk nv hns4 rfl ?_) (by decide))
    refine wpAny_Name (wpAny_loadName_local hk nse hns4 rfl ?_) (by decide)
    refine set_plain X4 (ox := HandSPX.excO C t1) (od := none) ⟨he4, rfl, rfl, trivial⟩ T.oex.sa ?_
    refine HandSPX.exc_osa X4 he4 hcl (show HandSPX.refsVE (.ref C :: bm) = true from hbm) rfl T.fld (fun h5 tk' dx k5' dn dne hx hn => ?_)
    refine wpAt_of_wpAny (wpAny_execs_nil ?_)
    exact hq h5 tk' dx t1 (fun b o hb z => k5' b o hb (k4 b o hb (k3' b o (k2' b o (k1' b o z))))) (Nat.le_trans (by obtain ⟨o, es, ep, z, r⟩ := hns4; exact Nat.le_of_lt (Heap.lt_size z)) dn) dne hx hn
end
end Mi

set_option Elab.async false
set_option linter.all false
set_option maxRecDepth 100000
set_option maxHeartbeats 2000000
/-! R1: repr, own exceptions, isinstance. -/
namespace Mi
open PySem L2 PyProof.Rows
/-! ### repr -/
section
variable {X : Cx} {ca : CaT} {ia : List Addr} {H : Hp} {h : LH} {pins : List (Addr × Obj)} {s : Shared} {st : L2.St}
abbrev RdF (s : Shared) (f : Val → Option PyData) (K : PySem.W.Frag) (ia : List Addr) (H : Hp) : Prop := ∀ (v : Val) (x : V) (u : Value) (d : PyData), f v = some d → RV K ia H v x → RelV x u → ∃ as, Reads s.heap u d as ∧ sysModules ∉ as
theorem rdAll {f : Val → Option PyData} (hf : RdF s f X.K ia H) : ∀ {vs : List Val} {xs : List V} {us : List Value} {ds : List PyData}, mapO f vs = some ds → RVs X.K ia H vs xs → Vals xs us → ∃ as, ReadsAll s.heap us ds as ∧ sysModules ∉ as
  | _, _, _, _, e, .nil, r => by
    cases e
    cases r
    exact ⟨_, .nil, by simp⟩
  | v :: vs, x :: xs, us, ds, e, .cons q t, r => by
    unfold mapO at e
    split at e
    · rename_i d ds' e1 e2
      cases e
      cases r with
      | cons r1 r2 =>
        obtain ⟨as, h1, n1⟩ := hf v x _ d e1 q r1
        obtain ⟨bs, h2, n2⟩ := rdAll hf e2 t r2
        exact ⟨_, .cons h1 h2, by simp [n1, n2]⟩
    · cases e
theorem rdKv {f : Val → Option PyData} (hf : RdF s f X.K ia H) {P : Program} {w : World} : ∀ {kvs : List (Key × Val)} {kws : List (Key × V)} {kus : List (Key × Value)} {es : List DictEntry} {ds : List (PyData × PyData)}, mapKv f kvs = some ds → RKV X.K ia H kvs kws → KV kws kus → Pairs (mixKind P w) es kus →
    ∃ as bs, ReadsAll s.heap (es.map (·.key)) (ds.map (·.1)) as ∧ ReadsAll s.heap (es.map (·.val)) (ds.map (·.2)) bs ∧ sysModules ∉ as ∧ sysModules ∉ bs
  | _, _, _, _, _, e, .nil, r, p => by
    cases e
    cases r
    cases p
    exact ⟨_, _, .nil, .nil, by simp, by simp⟩
  | (k, v) :: kvs, (_, x) :: kws, kus, es, ds, e, .cons q t, r, p => by
    unfold mapKv at e
    split at e
    · rename_i d ds' e1 e2
      cases e
      cases r with
      | cons r1 r2 =>
        cases p with
        | cons p1 p2 p3 =>
          obtain ⟨as, h1, n1⟩ := hf v x _ d e1 q r1.2
          rw [← p2] at h1
          obtain ⟨bs, cs, h2, h3, n2, n3⟩ := rdKv hf e2 t r2 p3
          rw [← r1.1] at p1
          rcases keyIs_shape (show keyIs k _ = true from p1) with ⟨i, t, rfl, ek⟩ | ⟨z, t, rfl, ek⟩
          · have hk : Reads s.heap _ (PyData.int i) [] := .int i t
            rw [← ek] at hk
            exact ⟨_, _, .cons hk h2, .cons h1 h3, by simp [n2], by simp [n1, n3]⟩
          · have hk : Reads s.heap _ (PyData.str z) [] := .str z t
            rw [← ek] at hk
            exact ⟨_, _, .cons hk h2, .cons h1 h3, by simp [n2], by simp [n1, n3]⟩
    · cases e
theorem toR_ok (I : Inv X pins st H s) (R : Rep X.K ca ia H h) (hs : ∃ o, X.K.lookup sysModules = some o ∧ o.cls = .type "dict") : ∀ n, RdF s (toR n h) X.K ia H
  | 0, _, _, _, _, e, _, _ => by cases e
  | n + 1, v, x, u, d, e, q, r => by
    have ih := toR_ok I R hs n
    obtain ⟨os, hs1, hs2⟩ := hs
    have hsh := I.kIn _ _ hs1
    cases q with
    | non => cases e; cases r; exact ⟨_, .none, by simp⟩
    | bl b => cases e; cases r; exact ⟨_, .bool b, by simp⟩
    | int i => cases e; obtain ⟨t, rfl⟩ := r; exact ⟨_, .int i t, by simp⟩
    | str z => cases e; obtain ⟨t, rfl⟩ := r; exact ⟨_, .str z t, by simp⟩
    | tup sq rs =>
      cases r
      obtain ⟨ds, e1, e2⟩ := Option.map_eq_some_iff.mp (show (mapO (toR n h) _).map PyData.tuple = some d from e)
      subst e2
      obtain ⟨its, rv, ⟨o, ho, hc, m, hd⟩, _⟩ := I.tuple (SqT.of sq)
      obtain ⟨as, h1, n1⟩ := rdAll ih e1 rs (show Vals _ its from rv)
      exact ⟨_, .tuple ho hc hd (by simpa using h1), n1⟩
    | @loc m a hm =>
      cases r
      have e' : (match h[m]? with
        | some (.lst xs) => (mapO (toR n h) xs).map PyData.list
        | some (.dK kvs) => (mapKv (toR n h) kvs).map PyData.dict
        | _ => none) = some d := e
      split at e'
      · rename_i xs em
        obtain ⟨ds, e1, e2⟩ := Option.map_eq_some_iff.mp e'
        subst e2
        obtain ⟨ys, q1, q2⟩ := R.ob m _ _ em hm
        obtain ⟨its, k, rv, ho, _⟩ := I.lst q1
        obtain ⟨as, h1, n1⟩ := rdAll ih e1 q2 rv
        refine ⟨_, .list ho rfl rfl (by simpa using h1), ?_⟩
        rw [List.mem_cons, not_or]
        refine ⟨fun z => ?_, n1⟩
        rw [← z, hsh] at ho
        have ho' := Option.some.inj ho
        rw [ho'] at hs2
        exact absurd (show Value.type "list" = Value.type "dict" from hs2) (by decide)
      · rename_i kvs em
        obtain ⟨ds, e1, e2⟩ := Option.map_eq_some_iff.mp e'
        subst e2
        obtain ⟨kws, q1, q2⟩ := R.ob m _ _ em hm
        obtain ⟨_, hne, vs, kv, o, es, ep, ho, hx, hd, _, hp, _⟩ := I.hok a _ q1
        obtain ⟨as, bs, h1, h2, n1, n2⟩ := rdKv ih e1 q2 kv hp
        refine ⟨_, .dict ho hx.1 hd h1 h2, ?_⟩
        have ne : ¬ sysModules = a := fun z => by
          rw [← z] at hne
          simp at hne
        simp [ne, n1, n2]
      · cases e'
    | _ => cases e
theorem cv_repr (hg : X.A.guards = some []) (hu : X.A.units + 200 < cLine) (hs : ∃ o, X.K.lookup sysModules = some o ∧ o.cls = .type "dict") :
    CallR X (.builtin "repr") (fun xs H Q => ∃ (ia : List Addr) (h : LH) (v : Val) (x : V) (E : XK), xs = [x] ∧ Rep X.K ca ia H h ∧ RV X.K ia H v x ∧ Want X.K ca ia H (vRep v h) Q E) := by
  intro pins s st H xs us Q I r hh
  obtain ⟨ia, h, v, x, E, rfl, R, rv, w⟩ := hh
  cases r with
  | cons rx rr =>
    cases rr
    unfold vRep at w
    split at w
    · rename_i d ed
      obtain ⟨c, w⟩ := chk_ok w
      simp only [Bool.and_eq_true, decide_eq_true_eq] at c
      obtain ⟨⟨c1, c2⟩, c3⟩ := c
      obtain ⟨as, rd, ns⟩ := toR_ok I R hs 40 v x _ d ed rv rx
      have q : Q (.str d.shown) H := w.now R (.str _)
      cases rd with
      | none => exact P.repr_of_none ⟨.str _, H, I.tok _, ⟨_, rfl⟩, q⟩
      | bool b => exact P.repr_of_bool ⟨.str _, H, I.tok _, ⟨_, rfl⟩, q⟩
      | int i t => exact P.repr_of_int (of_decide_eq_true c1) ⟨.str _, H, I.tok _, ⟨_, rfl⟩, q⟩
      | str z t => exact P.repr_of_str ⟨.str _, H, I.tok _, ⟨_, rfl⟩, q⟩ c2
      | list h1 h2 h3 h4 => exact repr_of_reads' (Reads.list h1 h2 h3 h4) c1 (fun _ => ns) hg (by omega) (fun _ _ z => z) (fun h' u tk k => ⟨.str _, H, I.kept (t' := tk) k, ⟨_, rfl⟩, q⟩) c2
      | tuple h1 h2 h3 h4 => exact repr_of_reads' (Reads.tuple h1 h2 h3 h4) c1 (fun _ => ns) hg (by omega) (fun _ _ z => z) (fun h' u tk k => ⟨.str _, H, I.kept (t' := tk) k, ⟨_, rfl⟩, q⟩) c2
      | dict h1 h2 h3 h4 h5 => exact repr_of_reads' (Reads.dict h1 h2 h3 h4 h5) c1 (fun _ => ns) hg (by omega) (fun _ _ z => z) (fun h' u tk k => ⟨.str _, H, I.kept (t' := tk) k, ⟨_, rfl⟩, q⟩) c2
    · exact (show False from w).elim
end
end Mi

set_option Elab.async false
set_option linter.all false
set_option maxRecDepth 100000
set_option maxHeartbeats 2000000
/-! R2: own exceptions made, read, asked. -/
namespace Mi
open PySem L2 PyProof.Rows
/-- what is asked of an own exception class at C -/
structure ErrK (P : Program) (K : PySem.W.Frag) (C : Addr) : Prop where
  made : ∃ fI D, ErrC P K C fI D
  xf : XfC K C
  ic : ExcC K C
  nv : PySem.W.findIn K (.ref C) "value" = some none
section
variable {X : Cx} {C : Addr} {e : Expr} {te : TE} {x : Str} {p pos : Pos}
def tMkE (C : Addr) (te : TE) : TE := fun st H Q => te st H fun y H1 => ∀ a d, H1 a = none → H1 d = none → d ≠ a → Q (.ref a) (upd (upd H1 d (exd d [("value", y)])) a (exo a C (some d)))
theorem pe_mkE (T : ErrK X.prog X.K C) (hr : Room 0 X.A) (hg : Gl X x) (hm : X.mg x = some (.ref C)) (he : PE X e te) (hst : noStar e = true) (hn : okN x = true) : PE X (.Call (.Name x p) [e] [] pos) (tMkE C te) := by
  obtain ⟨fI, D, TE⟩ := T.made
  have T := TE.oex
  refine ⟨fun pins s st H Q I h => ?_⟩
  have ha : PA X [e] (tCons te tNil) := pa_cons he pa_nil (star_cons hst)
  obtain ⟨nm, q, N, bs, bm, sn, sub, ab, col, dd, k0, k1, k2, k3, k5, hC, hbm⟩ := T.cls
  refine wpAny_Call_Name_kw (ld_glob I hg hm ?_ (okN_d hn).1)
  refine PySem.W.callWith_K (h₀ := X.base) I.ok.mod.kin T.kC (thn (ha.run pos pins s st H (fun vs H1 => match vs with
    | [y] => ∀ a d, H1 a = none → H1 d = none → d ≠ a → Q (.ref a) (upd (upd H1 d (exd d [("value", y)])) a (exo a C (some d)))
    | _ => False) I h) fun us s1 ⟨vs, H1, I1, r1, q0⟩ => ⟨I1.kIn, ?_⟩) (star_cons hst) rfl
  obtain ⟨y, ev, q1⟩ : ∃ y, vs = [y] ∧ ∀ a d, H1 a = none → H1 d = none → d ≠ a → Q (.ref a) (upd (upd H1 d (exd d [("value", y)])) a (exo a C (some d))) := by
    match vs, q0 with
    | [y], q0 => exact ⟨y, rfl, q0⟩
  subst ev
  show wpAny _ _ (call (.ref C) us) _ _ _
  obtain ⟨u, rfl, ry⟩ : ∃ u, us = [u] ∧ RelV y u := by
    cases r1 with
    | cons a b =>
      cases b
      exact ⟨_, rfl, a⟩
  obtain ⟨mb, hb1, hb2⟩ := I1.mod.blt
  have lim := I1.nolimit
  have gl := I1.mod.glob.keeps I1.bk
  have bl := hb1.keeps I1.bk
  have KX := I1.kIn
  obtain ⟨hp, g, dr, tk, os⟩ := s1
  have kk : ∀ b o, hp.get? b = some o → ((hp.push (PySem.W.kdv_tup [u])).push (PySem.HandSPX.excO C hp.objs.size)).get? b = some o := fun b o e => Heap.get?_push_of_some _ (Heap.get?_push_of_some _ e)
  have hget : ((hp.push (PySem.W.kdv_tup [u])).push (PySem.HandSPX.excO C hp.objs.size)).get? (hp.objs.size + 1) = some (PySem.HandSPX.excO C hp.objs.size) := by heap_get
  have ek : X.K.lookup (hp.objs.size + 1) = none := by
    cases z : X.K.lookup (hp.objs.size + 1) with
    | none => rfl
    | some o =>
      have y := Heap.lt_size (KX _ _ z)
      exact absurd (Nat.lt_of_succ_lt y) (Nat.lt_irrefl _)
  refine wpAny_call (PySem.HandSPX.call_own F.excBase_ValueError (fun Y => PySem.HandSPX.refsVE_contains Y bm hbm) (KX _ _ hC) (PySem.W.looks_findIn KX TE.init) (fun self => PySem.W.bind_fn KX self TE.tI) (show 1 ≤ sizeLine by decide)
    (err_init TE (KX.keeps kk) (by rw [make_depth]; have := hr.dp; omega) (lim.keeps kk) (gl.keeps kk) (bl.keeps kk) hb2 hget ek fun h' tk' dx t1 k dn dne hx hns => ?_))
  refine ⟨rfl, ?_⟩
  have dn' : hp.objs.size + 2 ≤ dx := Nat.le_trans (Nat.le_of_eq (by simp [Heap.size_push])) dn
  have nd : ∀ {b : Addr} {o : Obj}, hp.get? b = some o → b ≠ hp.objs.size + 1 ∧ b ≠ dx := fun {b o} z => by
    have y := Heap.lt_size z
    exact ⟨Nat.ne_of_lt (Nat.lt_succ_of_lt y), Nat.ne_of_lt (Nat.lt_of_lt_of_le y (Nat.le_trans (Nat.le_add_right _ 2) dn'))⟩
  have kp : ∀ b o, hp.get? b = some o → h'.get? b = some o := fun b o z => k b o (nd z).1 (kk b o z)
  have hnx : H1 (hp.objs.size + 1) = none := I1.hok.fresh (Nat.le_succ _)
  have hnd : H1 dx = none := I1.hok.fresh (Nat.le_trans (Nat.le_add_right _ 2) dn')
  have out : ∀ {b : Addr} {o : HO}, H1 b = some o → upd (upd H1 dx (exd dx [("value", y)])) (hp.objs.size + 1) (exo (hp.objs.size + 1) C (some dx)) b = some o := fun {b o} z => by
    rw [upd_ne (ne_of_none z hnx), upd_ne (ne_of_none z hnd)]
    exact z
  refine ⟨.ref (hp.objs.size + 1), _, I1.un (t' := tk') (h' := h') (H' := upd (upd H1 dx (exd dx [("value", y)])) (hp.objs.size + 1) (exo (hp.objs.size + 1) C (some dx))) ⟨fun b o z _ _ _ => kp b o z, fun b o z _ _ _ => ⟨o.slots, kp b o z⟩, fun b o z n _ => ?_, fun b o z _ => ⟨o, kp b o z⟩, fun b xs z => out z, fun b o v z => out z, fun b ps z => ⟨#[], by rw [out z]; simp⟩⟩ (fun b o z => ?_), rfl, q1 _ dx hnx hnd dne⟩
  · rw [upd_ne (nd z).1, upd_ne (nd z).2]
    exact n
  · by_cases hb : b = hp.objs.size + 1
    · subst hb
      rw [upd_same] at z
      cases z
      exact exo_ok hx
    · rw [upd_ne hb] at z
      by_cases hd : b = dx
      · subst hd
        rw [upd_same] at z
        cases z
        refine exd_ok hns fun f => ?_
        have := relO_put (f := ("value" : Str)) (fs := []) (mA := fun _ => none) ry (fun g => True.intro) f
        exact this
      · rw [upd_ne hd] at z
        exact (I1.hok b o z).stay (fun c v _ y => kp c v y) (fun c hc => out hc) (fun c xs hc => out hc)
end
end Mi

set_option Elab.async false
set_option linter.all false
set_option maxRecDepth 100000
set_option maxHeartbeats 2000000
/-! C0: instances, with slots or with a dict. -/
namespace Mi
open PySem L2 PyProof.Rows SlX
/-- what the written part says of a class (dn: of the fields of a dict) -/
structure ClOk (K : PySem.W.Frag) (C : Addr) (dn : Option (List Str)) : Prop where
  pg : PySem.W.plainGet K C Str.empty = true
  ic : PySem.W.isClsIn K C = true
  po : PySem.W.plainOver K C = true
  sa : PySem.W.findIn K (.ref C) "__setattr__" = some (some (.builtin "object.__setattr__"))
  hd : dn ≠ none → PySem.W.hasDictIn K C = true
theorem ClOk.get {K : PySem.W.Frag} {C : Addr} {dn : Option (List Str)} (c : ClOk K C dn) (f : Str) : PySem.W.plainGet K C f = true := c.pg
theorem ClOk.s {K : PySem.W.Frag} {C : Addr} {dn : Option (List Str)} (c : ClOk K C dn) : SCls K C := ⟨c.pg, c.ic, c.po, c.sa⟩
theorem ClOk.d {K : PySem.W.Frag} {C : Addr} {ns : List Str} (c : ClOk K C (some ns)) : Cls K C := ⟨c.pg, c.hd (fun z => by cases z), c.po, c.sa⟩
/-- no field of a dict -/
def NoF (dn : Option (List Str)) (m : Str) : Prop := ∀ ns, dn = some ns → m ∉ ns
/-- the field f, at place i -/
def Fld (K : PySem.W.Frag) (C : Addr) (dn : Option (List Str)) (f : Str) (i : Nat) : Prop := match dn with
  | none => ∃ p, Slot1 K C f p i
  | some ns => ns[i]? = some f ∧ NoAttr K C f ∧ ns.Nodup ∧ ns.length < 1000
section
variable {X : Cx} {pins : List (Addr × Obj)} {σ : L2.St} {H : Hp} {s : Shared} {a C dx : Addr} {ws : List (Option V)} {f m : Str} {v : V} {i : Nat} {A : Around} {E : Value → Shared → Prop} {dn : Option (List Str)}
theorem ist_inst (I : Inv X pins σ H s) (h : Ist dn H a C dx ws) : ∃ (ox od : Obj), (∀ j u, ox.data ≠ .prim (.int j u)) ∧ PySem.W.InstAt s.heap a ox C (some od) ∧ ∀ f, NoF dn f → PySem.W.lookIn f od = some none := by
  cases dn with
  | none =>
    obtain ⟨sl, od, _, J, hl⟩ := slt_inst I h
    exact ⟨_, od, (fun j u z => by cases z), J, fun f _ => hl f⟩
  | some ns =>
    obtain ⟨gs, e, _, h2, _⟩ := h
    obtain ⟨mA, O, r, _⟩ := ins_get I.hok e
    obtain ⟨od, J, hl⟩ := O.look
    refine ⟨_, od, (fun j u z => by cases z), J, fun f nf => ?_⟩
    rw [hl f]
    have hn : mA f = none := RelO.none_of (by rw [← h2 f (nf ns rfl)]; exact r f)
    rw [hn]
theorem ist_get {b : Bool} {Q : Value → Shared → Prop} (I : Inv X pins σ H s) (h : Ist dn H a C dx ws) (c : ClOk X.K C dn) (t : Fld X.K C dn f i) (l : ws[i]? = some (some v)) (q : ∀ u s', Inv X pins σ H s' → RelV v u → Q u s') :
    wpAny (model X.prog X.w) A (getAttr (.ref a) f b) Q E s := by
  cases dn with
  | none =>
    obtain ⟨p, t⟩ := t
    exact getslot_ok I h c.s t l q
  | some ns =>
    obtain ⟨gs, e, h1, _⟩ := h
    obtain ⟨t1, t2, _⟩ := t
    obtain ⟨f', e1, e2⟩ := h1 i v l
    rw [t1] at e1
    cases e1
    exact getattr_ok I e c.d t2 e2 q
theorem ist_meth {g : Addr} {pl : Sem Bool} {Q : Value × List Value → Shared → Prop} (I : Inv X pins σ H s) (h : Ist dn H a C dx ws) (c : ClOk X.K C dn) (k : Meth X.K C m g) (nf : NoF dn m) (q : Q (.ref g, [.ref a]) s) :
    wpAny (model X.prog X.w) A (getMethod (.ref a) m pl) Q E s := by
  obtain ⟨ox, od, _, J, hl⟩ := ist_inst I h
  refine PySem.W.method_fn I.kIn J (PySem.W.plainGet_of (c.get m)).1 (PySem.W.plainGet_of (c.get m)).2 k.at_ (beq_iff_eq.mp k.fn) ?_ q
  show (PySem.W.lookIn m od).map (·.isSome) = some false
  rw [hl m nf]
  rfl
theorem nd_len : ∀ (l ns : List Str), l.Nodup → (∀ x ∈ l, x ∈ ns) → l.length ≤ ns.length
  | [], _, _, _ => Nat.zero_le _
  | x :: l, ns, h, k => by
    have hx := k x List.mem_cons_self
    obtain ⟨h1, h2⟩ := List.nodup_cons.mp h
    have := nd_len l (ns.erase x) h2 fun y hy => (List.mem_erase_of_ne (fun z => h1 (by rw [← z]; exact hy))).mpr (k y (List.mem_cons_of_mem _ hy))
    rw [List.length_erase_of_mem hx] at this
    have := List.length_pos_of_mem hx
    simp
    omega
theorem keysF (f : Str) (v : V) : ∀ gs : List (Str × V), (putF f v gs).map (·.1) = if f ∈ gs.map (·.1) then gs.map (·.1) else gs.map (·.1) ++ [f]
  | [] => by simp [putF]
  | (g, x) :: r => by
    rw [show putF f v ((g, x) :: r) = (if g = f then (g, v) :: r else (g, x) :: putF f v r) from rfl]
    by_cases h : g = f
    · rw [if_pos h]
      simp [h]
    · rw [if_neg h, List.map_cons, keysF f v r, List.map_cons]
      have h' : ¬ f = g := fun z => h z.symm
      by_cases hm : f ∈ r.map (·.1)
      · rw [if_pos hm, if_pos (List.mem_cons_of_mem _ hm)]
      · rw [if_neg hm, if_neg (by rw [List.mem_cons]; rintro (z | z); exact h' z; exact hm z)]
        rfl
/-- behind a store -/
def istH (dn : Option (List Str)) (H : Hp) (a C dx : Addr) (i : Nat) (f : Str) (y : V) (ws : List (Option V)) (H' : Hp) : Prop := match dn with
  | none => H' = slH H a C dx (putS i y ws)
  | some _ => ∃ gs, H a = some (.ins C dx gs) ∧ H' = upd H a (.ins C dx (putF f y gs))
theorem ist_set {y : V} {u : Value} {Q : Unit → Shared → Prop} (I : Inv X pins σ H s) (h : Ist dn H a C dx ws) (c : ClOk X.K C dn) (t : Fld X.K C dn f i) (ry : RelV y u) (q : ∀ s' H', istH dn H a C dx i f y ws H' → Inv X pins σ H' s' → Q () s') :
    wpAny (model X.prog X.w) A (setAttr (.ref a) f u) Q E s := by
  cases dn with
  | none =>
    obtain ⟨p, t⟩ := t
    exact setslot_ok I h c.s t ry fun s' I' => q s' _ rfl I'
  | some ns =>
    obtain ⟨gs, e, _, _, h3, h4⟩ := h
    obtain ⟨t1, t2, _, t4⟩ := t
    have := nd_len _ _ h3 h4
    rw [List.length_map] at this
    exact setattr_ok I e c.d t2 (by omega) ry fun s' I' => q s' _ ⟨gs, e, rfl⟩ I'
/-- what stands behind a store -/
theorem ist_put {y : V} {H' : Hp} (h : Ist dn H a C dx ws) (t : Fld X.K C dn f i) (hne : dx ≠ a) (z : istH dn H a C dx i f y ws H') : Ist dn H' a C dx (putS i y ws) := by
  cases dn with
  | none =>
    cases z
    exact slH_slt hne
  | some ns =>
    obtain ⟨gs, e0, h1, h2, h3, h4⟩ := h
    obtain ⟨gs', e, rfl⟩ := z
    rw [e0] at e
    cases e
    obtain ⟨t1, _, t3, _⟩ := t
    refine ⟨putF f y gs, upd_same, fun j w l => ?_, fun g hg => ?_, ?_, ?_⟩
    · by_cases hj : j = i
      · subst hj
        rw [putS_get] at l
        cases l
        exact ⟨f, t1, by rw [lookup_putF, if_pos rfl]⟩
      · obtain ⟨f', e1, e2⟩ := h1 j w ((putS_ne hj).mp l)
        refine ⟨f', e1, ?_⟩
        have ne : f' ≠ f := fun z => by
          subst z
          obtain ⟨l1, e3⟩ := List.getElem?_eq_some_iff.mp e1
          obtain ⟨l2, e4⟩ := List.getElem?_eq_some_iff.mp t1
          exact hj ((List.getElem_inj t3).mp (e3.trans e4.symm))
        rw [lookup_putF, if_neg ne]
        exact e2
    · have ne : g ≠ f := fun z => hg (by rw [z]; exact List.mem_of_getElem? t1)
      rw [lookup_putF, if_neg ne]
      exact h2 g hg
    · rw [keysF]
      split
      · exact h3
      · rename_i hm
        rw [List.nodup_append]
        refine ⟨h3, by simp, fun x hx z hz q => ?_⟩
        have : z = f := by simpa using hz
        exact hm (by rw [← this, ← q]; exact hx)
    · rw [keysF]
      intro g hg
      split at hg
      · exact h4 g hg
      · rcases List.mem_append.mp hg with hg | hg
        · exact h4 g hg
        · have : g = f := by simpa using hg
          rw [this]
          exact List.mem_of_getElem? t1
/-- all but the instance and its dict stays -/
theorem istH_ne {y : V} {H' : Hp} {b : Addr} (z : istH dn H a C dx i f y ws H') (h1 : b ≠ a) (h2 : b ≠ dx) : H' b = H b := by
  cases dn with
  | none =>
    cases z
    exact slH_ne h1 h2
  | some ns =>
    obtain ⟨gs, _, rfl⟩ := z
    exact upd_ne h1
/-- its dict's place -/
theorem istH_dx {y : V} {H' : Hp} (z : istH dn H a C dx i f y ws H') (hne : dx ≠ a) : H' dx = H dx ∨ H' dx = some (.xd []) := by
  cases dn with
  | none =>
    cases z
    right
    unfold slH
    rw [upd_ne hne, upd_same]
  | some ns =>
    obtain ⟨gs, _, rfl⟩ := z
    exact .inl (upd_ne hne)
theorem ist_new (e : H a = some (.ins C dx [])) : Ist dn H a C dx [] := by
  cases dn with
  | none => exact .inl ⟨e, rfl⟩
  | some ns => exact ⟨[], e, (fun i w l => by simp at l), (fun _ _ => rfl), List.nodup_nil, fun _ h => nomatch h⟩
theorem ist_some (h : Ist dn H a C dx ws) : ∃ u, H a = some u ∧ ∀ ob w, u ≠ .frz ob w := by
  cases dn with
  | none =>
    rcases h with ⟨q, _⟩ | ⟨q, _⟩
    · exact ⟨_, q, fun _ _ z => by cases z⟩
    · refine ⟨_, q, fun _ _ z => ?_⟩
      unfold SlO at z
      cases z
  | some ns =>
    obtain ⟨gs, q, _⟩ := h
    exact ⟨_, q, fun _ _ z => by cases z⟩
/-- o.f = e -/
def sIs (K : PySem.W.Frag) (ta tv : TE) (f : Str) : TS := fun D σ H => tv σ H fun y H1 => ta σ H1 fun x H2 => ∃ a C dx ws i dn, x = .ref a ∧ Ist dn H2 a C dx ws ∧ ClOk K C dn ∧ Fld K C dn f i ∧ ∀ H', istH dn H2 a C dx i f y ws H' → D.nx σ H'
theorem ps_is {o value : Expr} {ta tv : TE} {pos pos' : Pos} (ha : PE X o ta) (hv : PE X value tv) (hs : swapsWith value (some (.Attribute o f pos')) pos.line X.env = pure false) : PS X (.Assign [.Attribute o f pos'] value pos) (sIs X.K ta tv f) := by
  refine ⟨fun pins s σ H D I h => ?_⟩
  refine plainObj_wpAny_Assign_Attribute (thn (hv.run pins s σ H _ I h) fun u s1 ⟨y, H1, I1, ry, q⟩ => thn (ha.run pins s1 σ H1 _ I1 q) fun ov s2 ⟨x, H2, I2, rx, a, C, dx, vs, i, dn, ex, hsl, c, t, q2⟩ => ?_) hs
  subst ex
  obtain rfl : ov = Value.ref a := rx
  exact ist_set I2 hsl c t ry fun s3 H3 z I3 => ⟨σ, _, I3, q2 H3 z⟩
/-- isinstance(x, T) -/
def rIst (K : PySem.W.Frag) (u : Value) : List V → Hp → VK → Prop := fun xs H Q => ∃ (a C dx : Addr) (vs : List (Option V)) (dn : Option (List Str)) (c : V) (b : Bool), xs = [V.ref a, c] ∧ RelV c u ∧ (∀ w, RelV c w → w = u) ∧ Ist dn H a C dx vs ∧ ClOk K C dn ∧ SIsi K C ∧ PySem.W.kitOne K (.ref C) u = some b ∧ Q (.bl b) H
theorem call_isIst (u : Value) : CallR X (.builtin "isinstance") (rIst X.K u) := by
  intro pins s σ H xs us Q I r h
  obtain ⟨a, C, dx, vs, dn, c, b, rfl, rc, one, hsl, hc, hi, hk, q⟩ := h
  obtain ⟨u1, u2, rfl, r1, r2⟩ := r.two
  cases (show u1 = Value.ref a from r1)
  cases one _ r2
  obtain ⟨ox, od, _, J, _⟩ := ist_inst I hsl
  exact PySem.W.kia_one (OwX.kitx_slt hc.ic (hc.get _) hi.ca hi.cn hi.ct hi.cm) I.kIn J hk (fun z => nomatch z) fun tk => ⟨.bl b, H, I.tok _, rfl, q⟩
end
end Mi

set_option Elab.async false
set_option linter.all false
set_option maxRecDepth 100000
set_option maxHeartbeats 2000000
/-! R3: errors, isinstance, dict displays by their runs. -/
namespace Mi
open PySem L2 PyProof.Rows
section
variable {K : PySem.W.Frag} {ca : CaT} {ia : List Addr} {H : Hp} {h : LH}
theorem Rep.anyNew (R : Rep K ca ia H h) {p : Addr} {u : HO} (n : H p = none) : Rep K ca ia (upd H p u) h ∧ Grow ia H [] (upd H p u) := by
  have k : Hold ia [] H (upd H p u) := Hold.newT n
  refine ⟨⟨R.len, R.nd, fun m o a e1 e2 => ?_, fun q hq => by
    have z := (R.tab q hq).stay (ka := []) k (tbl_new n)
    rw [app_nil] at z
    exact z⟩, ⟨fun b o e _ _ _ => by rw [upd_ne (ne_of_none e n)]; exact e, fun b o e => ⟨o, by rw [upd_ne (ne_of_none e n)]; exact e⟩, (fun _ z => nomatch z), fun b y e _ => .inl (by rw [upd_ne (ne_of_none e n)]; exact e), fun b o u e => by rw [upd_ne (ne_of_none e n)]; exact e⟩⟩
  have q := R.ob m o a e1 e2
  have ne : a ≠ p := fun z => by
    rw [z] at q
    obtain ⟨_, q, _⟩ := q.kind
    rw [n] at q
    cases q
  have z := q.stay (ka := []) k (upd_ne ne)
  rw [app_nil] at z
  exact z
end
section
variable {X : Cx} {ca : CaT} {W : WS} {e : Expr} {pos p : Pos} {ma : M Val} {x : Str}
theorem d_mkE (T : ErrK X.prog X.K (He.ga X.K x)) (hr : Room 0 X.A) (hg : Gl X x) (hm : X.mg x = some (.ref (He.ga X.K x))) (hst : noStar e = true) (hn : okN x = true) (he : PE X e (tOf X.K ca W ma)) :
    PE X (.Call (.Name x p) [e] [] pos) (tOf X.K ca W (fun sl h => (ma sl h).bind fun v h1 => .ok (.err x v) h1)) := by
  refine pe_imp (pe_mkE T hr hg hm he hst hn) fun st H Q t => ?_
  refine (tC.step (f := fun v sl h1 => .ok (.err x v) h1) t).mono fun y H1 ⟨v, t1⟩ => ?_
  obtain ⟨ia, sl, h, R, S, r, q⟩ := t1
  intro a d na nd ne
  cases r with
  | cons ry _ =>
    obtain ⟨R1, g1⟩ := R.anyNew (u := exd d [("value", y)]) nd
    have na' : upd H1 d (exd d [("value", y)]) a = none := by rw [upd_ne (Ne.symm ne)]; exact na
    obtain ⟨R2, g2⟩ := R1.anyNew (u := exo a (He.ga X.K x) (some d)) na'
    have g := g1.trans (by rw [app_nil]; exact g2)
    refine q ([] ++ []) _ _ g (by rw [app_nil, app_nil]; exact R2) ?_
    refine .err (by simpa using R.fresh na) (by simpa using R.fresh nd) (.inl upd_same) (.inl (by rw [upd_ne ne]; exact upd_same)) (ry.grow g R)
/-! ### .value -/
theorem exD_at {P : Program} {w : World} {H : Hp} {h : Heap} {d : Addr} {v : V} (hok : HOk P w H h) (e : ExD H d v) : ∃ mA, h.Ns1 d mA ∧ ∀ f, RelO (List.lookup f [(("value" : Str), v)]) (mA f) := by
  rcases e with e | e
  · exact exd_at hok e
  · exact hok d _ e
theorem exP_at {P : Program} {w : World} {H : Hp} {h : Heap} {a C d : Addr} (hok : HOk P w H h) (e : ExP H a C d) : ∃ o : Obj, h.get? a = some o ∧ o.cls = .ref C ∧ PySem.W.notCls o = true ∧ o.dict = some d := by
  rcases e with e | e
  · obtain ⟨t1, ha⟩ := exo_at hok e
    exact ⟨_, ha, rfl, rfl, rfl⟩
  · obtain ⟨⟨o, h1, h2, h3, vs, h4⟩, _⟩ := hok a _ e
    exact ⟨o, h1, h2, by unfold PySem.W.notCls; rw [h4], h3⟩

def tFldE (K : PySem.W.Frag) (te : TE) : TE := fun st H Q => te st H fun x H1 => ∃ (a C d : Addr) (v : V), x = .ref a ∧ XfC K C ∧ PySem.W.findIn K (.ref C) "value" = some none ∧ ExP H1 a C d ∧ ExD H1 d v ∧ Q v H1
theorem pe_fldE {te : TE} (he : PE X e te) (hb : attributeBase e "value" X.env (eval e X.env) = eval e X.env) : PE X (.Attribute e "value" pos) (tFldE X.K te) := by
  refine ⟨fun pins s st H Q I h => ?_⟩
  refine attr_of hb (thn (he.run pins s st H _ I h) fun u s1 hh => ?_)
  obtain ⟨x, H1, I1, rx, a, C, d, v, ex, T, hno, ea, ed, q⟩ := hh
  subst ex
  obtain rfl : u = Value.ref a := rx
  obtain ⟨o1, ha, hc1, hk1, hd1⟩ := exP_at I1.hok ea
  obtain ⟨mA, hns, hr⟩ := exD_at I1.hok ed
  obtain ⟨od, ho, hl⟩ := lookIn_ns hns
  obtain ⟨u, hu, ru⟩ := RelO.some_of (v := v) (o := mA "value") (hr "value")
  have J : PySem.W.InstAt s1.heap a _ C (some od) := ⟨ha, hc1, hk1, by rw [hd1]; exact ho⟩
  exact HandSPX.exc_get I1.kIn J T.ga T.gg T.exC (PySem.W.findObj_own T.hdC hno rfl (by rw [hl, hu])) (handed_of ru) ⟨v, H1, I1.tok _, ru, q⟩
theorem d_fld {errs : List Str} (T : ∀ c, errs.contains c = true → ErrK X.prog X.K (He.ga X.K c)) (hp : plainO e = true) (he : PE X e (tOf X.K ca W ma)) : PE X (.Attribute e "value" pos) (tOf X.K ca W (fun sl h => (ma sl h).bind fun v h1 => vFld errs v h1)) := by
  refine pe_imp (pe_fldE he (plain_base hp)) fun st H Q t => ?_
  refine (tC.step (f := fun v sl h1 => vFld errs v h1) t).mono fun y H1 ⟨v, t1⟩ => ?_
  obtain ⟨ia, sl, h, R, S, r, q⟩ := t1
  cases r with
  | cons ry _ =>
    dsimp only [vFld] at q
    split at q
    · obtain ⟨hc, q⟩ := chk_ok q
      cases ry with
      | err _ _ h1 h2 h3 => exact ⟨_, _, _, _, rfl, (T _ hc).xf, (T _ hc).nv, h1, h2, q.now R h3⟩
    · exact (show False from q).elim
/-! ### isinstance -/
def clV (K : PySem.W.Frag) : ClR → Value
  | .ty n => .type n
  | .own c => .ref (He.ga K c)
def clW (K : PySem.W.Frag) : ClR → V
  | .ty n => .ty n
  | .own c => .ref (He.ga K c)
def rIsD (K : PySem.W.Frag) : List V → Hp → VK → Prop := fun xs H Q => rIsi K xs H Q ∨ (∃ u, rIst K u xs H Q) ∨ ∃ (a D : Addr) (d : Option Addr) (c : V) (u : Value) (b : Bool), xs = [.ref a, c] ∧ ClsV c u ∧ (∃ d', d = some d' ∧ ExP H a D d' ∧ ∃ v, ExD H d' v) ∧ ExcC K D ∧ PySem.W.kitOne K (.ref D) u = some b ∧ Q (.bl b) H
theorem call_isD : CallR X (.builtin "isinstance") (rIsD X.K) := by
  intro pins s st H xs us Q I r hh
  rcases hh with hh | ⟨u, hh⟩ | ⟨a, D, d, c, u, b, rfl, k, ⟨d', ed, ea, fs, ed'⟩, C, e, q⟩
  · exact call_isi pins s st H xs us Q I r hh
  · exact call_isIst u pins s st H xs us Q I r hh
  · cases r with
    | cons rx rr =>
      cases rr with
      | cons rt rr =>
        cases rr
        cases rx
        have e2 := k.eq rt
        subst e2
        subst ed
        obtain ⟨o1, ha, hc1, hk1, hd1⟩ := exP_at I.hok ea
        obtain ⟨mA, hns, hr⟩ := exD_at I.hok ed'
        obtain ⟨od, ho, hl⟩ := lookIn_ns hns
        have J : PySem.W.InstAt s.heap a _ D (some od) := ⟨ha, hc1, hk1, by rw [hd1]; exact ho⟩
        exact PySem.W.kia_one (PySem.W.kitx_exc (by obtain ⟨cd, hc, _⟩ := PySem.W.any_some C.hd; rw [hc]; rfl) C.hg C.hk C.hs C.ha C.hn C.ht C.hm) I.kIn J e (fun z => nomatch z) fun tk => ⟨.bl b, H, I.kept (t' := tk) fun _ _ z => z, rfl, q⟩
theorem clsV_of (K : PySem.W.Frag) (c : ClR) : ClsV (clW K c) (clV K c) := by
  cases c with
  | ty n => exact .ty n
  | own x => exact .own _
theorem relC (K : PySem.W.Frag) (c : ClR) : RelV (clW K c) (clV K c) := by
  cases c with
  | ty n => exact rfl
  | own x => exact rfl
theorem tyO_ok {ia : List Addr} {H : Hp} {h : LH} (R : Rep X.K ca ia H h) {v : Val} {x : V} {t : ClR} (e : tyO v h = some t) (r : RV X.K ia H v x) : TyX X.K H x (clV X.K t) ∨ (∃ (c : Str) (m : Nat) (a dx : Addr) (vs : List (Option V)), v = .loc m ∧ t = .own c ∧ x = .ref a ∧ Ist (ca.dn c) H a (ca c) dx vs) ∨ ∃ (c : Str) (w : Val) (a d : Addr) (y : V), v = .err c w ∧ t = .own c ∧ x = .ref a ∧ ExP H a (He.ga X.K c) d ∧ ExD H d y := by
  cases r with
  | non => cases e; exact .inl (.base .non)
  | bl b => cases e; exact .inl (.base (.bl b))
  | int i => cases e; exact .inl (.base (.int i))
  | str z => cases e; exact .inl (.base (.str z))
  | tup s _ => cases e; exact .inl (.base (.tup s))
  | ct s _ =>
    cases e
    obtain ⟨o, its, n, h1, h2, _⟩ := s
    exact .inl (.kTuple h1 h2)
  | @loc m a q =>
    have e' : (match h[m]? with
      | some (.lst _) => some (ClR.ty "list")
      | some (.dK _) => some (.ty "dict")
      | some (.dT _) => some (.ty "dict")
      | some (.slt c _) => some (.own c)
      | _ => none) = some t := e
    split at e'
    · rename_i em
      cases e'
      obtain ⟨ys, h1, h2⟩ := R.ob m _ _ em q
      exact .inl (.base (.lst h1))
    · rename_i em
      cases e'
      obtain ⟨ys, h1, h2⟩ := R.ob m _ _ em q
      exact .inl (.base (.dK h1))
    · rename_i em
      cases e'
      obtain ⟨ys, h1, h2⟩ := R.ob m _ _ em q
      exact .inl (.base (.dT h1))
    · rename_i em
      cases e'
      obtain ⟨dx, vs, h1, _⟩ := R.ob m _ _ em q
      exact .inr (.inl ⟨_, m, _, dx, vs, rfl, rfl, rfl, h1⟩)
    · cases e'
  | err _ _ h1 h2 _ => cases e; exact .inr (.inr ⟨_, _, _, _, _, rfl, rfl, rfl, h1, h2⟩)
  | cl _ _ => cases e
theorem d_isi {T : List (ClR × List (ClR × Bool))} {errs : List Str} {sls : Str → Bool} {c : ClR} {ce : Expr} (hca : ca.fn = He.ga X.K) (TS : ∀ c, sls c = true → ClOk X.K (He.ga X.K c) (ca.dn c) ∧ SlX.SIsi X.K (He.ga X.K c)) (TE : ∀ c, errs.contains c = true → ErrK X.prog X.K (He.ga X.K c)) (TI : ∀ t c b, isiL T t c = some b → PySem.W.kitOne X.K (clV X.K t) (clV X.K c) = some b)
    (hg : Gl X "isinstance") (hm : X.mg "isinstance" = none) (hst : noStar e = true) (hst2 : noStar ce = true) (he : PE X e (tOf X.K ca W ma)) (hce : PE X ce (L2.tC (clW X.K c))) :
    PE X (.Call (.Name "isinstance" p) [e, ce] [] pos) (tOf X.K ca W (fun sl h => (ma sl h).bind fun v h1 => vIsi T errs sls c v h1)) := by
  have ha : PA X [e, ce] (tCons (tOf X.K ca W ma) (tCons (L2.tC (clW X.K c)) tNil)) := pa_cons he (pa_cons hce pa_nil (star_cons hst2)) (star_cons hst)
  refine pe_imp (pe_callB call_isD hg hm (by decide +kernel : bootBuiltins "isinstance" = some (.builtin "isinstance")) ha (by decide) (by decide) (star_cons hst) (star_none fun y hy => by
    rcases List.mem_cons.mp hy with rfl | hy
    · exact hst2
    · cases hy)) fun st H Q t => ?_
  refine (tC.step (f := fun v sl h1 => vIsi T errs sls c v h1) t).mono fun y H1 ⟨v, t1⟩ => ?_
  obtain ⟨ia, sl, h, R, S, r, q⟩ := t1
  cases r with
  | cons ry _ =>
    show rIsD X.K [y, clW X.K c] H1 Q
    dsimp only [vIsi] at q
    split at q
    · rename_i t et
      split at q
      · rename_i b eb ec
        have qq : Q (.bl b) H1 := q.now R (.bl b)
        rcases tyO_ok R et ry with h1 | ⟨x, m, a, dx, vs, rfl, rfl, rfl, h1⟩ | ⟨x, w, a, d, y', rfl, rfl, rfl, h1, h2⟩
        · exact .inl ⟨y, _, _, _, b, rfl, clsV_of X.K c, h1, TI _ _ _ eb, qq⟩
        · rw [hca] at h1
          exact .inr (.inl ⟨_, a, _, dx, vs, _, _, b, rfl, relC X.K c, fun _ z => (clsV_of X.K c).eq z, h1, (TS _ ec).1, (TS _ ec).2, TI _ _ _ eb, qq⟩)
        · exact .inr (.inr ⟨a, _, _, _, _, b, rfl, clsV_of X.K c, ⟨d, rfl, h1, _, h2⟩, (TE _ ec).ic, TI _ _ _ eb, qq⟩)
      · exact (show False from q).elim
    · exact (show False from q).elim
/-! ### repr -/
theorem d_rpr (hgd : X.A.guards = some []) (hu : X.A.units + 200 < cLine) (hs : ∃ o, X.K.lookup sysModules = some o ∧ o.cls = .type "dict") (hg : Gl X "repr") (hm : X.mg "repr" = none) (hst : noStar e = true) (he : PE X e (tOf X.K ca W ma)) :
    PE X (.Call (.Name "repr" p) [e] [] pos) (tOf X.K ca W (fun sl h => (ma sl h).bind fun v h1 => vRep v h1)) := by
  have ha : PA X [e] (tCons (tOf X.K ca W ma) tNil) := pa_cons he pa_nil (star_cons hst)
  refine pe_imp (pe_callB (cv_repr (ca := ca) hgd hu hs) hg hm (by decide +kernel : bootBuiltins "repr" = some (.builtin "repr")) ha (by decide) (by decide) (star_cons hst) rfl) fun st H Q t => ?_
  refine (tC.step (f := fun v sl h1 => vRep v h1) t).mono fun y H1 ⟨v, t1⟩ => ?_
  obtain ⟨ia, sl, h, R, S, r, q⟩ := t1
  cases r with
  | cons ry _ => exact ⟨ia, h, v, y, _, rfl, R, ry, q⟩
/-! ### dict displays with keys that are texts -/
def trsOf (K : PySem.W.Frag) (ca : CaT) (W : WS) (ev : IE → LS → LH → Res Val) : List Str → List IE → List (TE × TE)
  | k :: ks, i :: is => (L2.tC (.str k), tOf K ca W (ev i)) :: trsOf K ca W ev ks is
  | _, _ => []
def zipS : List Str → List V → List (V × V)
  | k :: ks, y :: ys => (.str k, y) :: zipS ks ys
  | _, _ => []
theorem cons_post {ml : M (List Val)} {v : Val} {x : V} {vs : List Val} {xs : List V} {st : L2.St} {H : Hp} {Q : List V → Hp → Prop} (t : tCL X.K ca W (v :: vs) (x :: xs) (fun sl h1 => (ml sl h1).bind fun ws h2 => .ok (v :: ws) h2) st H Q) :
    tCL X.K ca W (v :: vs) (x :: xs) ml st H (fun ys H' => Q (x :: ys) H') := by
  obtain ⟨ia, sl, h, R, S, r, q⟩ := t
  refine ⟨ia, sl, h, R, S, r, ?_⟩
  dsimp only at q
  cases e' : ml sl h with
  | bad => rw [e'] at q; exact q
  | exc c v h' => rw [e'] at q; exact q
  | ok ws h1 =>
    rw [e'] at q
    intro ka H' ys g R' r'
    cases r with
    | cons rx _ => exact q ka H' (x :: ys) g R' (.cons (rx.grow g R) r')
theorem drop_ctx {m : M Val} {vs : List Val} {xs : List V} {st : L2.St} {H : Hp} {Q : VK} (t : tC X.K ca W vs xs m st H Q) : tOf X.K ca W m st H Q := by
  obtain ⟨ia, sl, h, R, S, r, q⟩ := t
  exact ⟨ia, sl, h, R, S, .nil, q⟩
theorem pairs_read {ev : IE → LS → LH → Res Val} : ∀ (ks : List Str) (is : List IE), ks.length = is.length → ∀ {vs : List Val} {xs : List V} {st : L2.St} {H : Hp} {Q : List (V × V) → Hp → Prop},
    tCL X.K ca W vs xs (evL ev is) st H (fun ys H' => Q (zipS ks ys) H') → tPairs (trsOf X.K ca W ev ks is) st H Q
  | [], [], _, vs, xs, st, H, Q, t => by
    obtain ⟨ia, sl, h, R, S, r, q⟩ := t
    exact WantL.now q R .nil
  | [], _ :: _, hl, _, _, _, _, _, _ => by cases hl
  | _ :: _, [], hl, _, _, _, _, _, _ => by cases hl
  | k :: ks, i :: is, hl, vs, xs, st, H, Q, t => by
    show tOf X.K ca W (ev i) st H fun y H2 => tPairs (trsOf X.K ca W ev ks is) st H2 fun ps H3 => Q ((.str k, y) :: ps) H3
    refine (drop_ctx (tCL.step (f := fun v sl h1 => (evL ev is sl h1).bind fun ws h2 => .ok (v :: ws) h2) t)).mono fun x H1 ⟨v, t1⟩ => ?_
    exact pairs_read ks is (by simpa using hl) (cons_post t1)
theorem putAll_ok {K : PySem.W.Frag} {ia : List Addr} {H : Hp} : ∀ {ks : List Str} {vs : List Val} {ys : List V} {kvs : List (Key × Val)} {kws : List (Key × V)}, ks.length = vs.length → RVs K ia H vs ys → RKV K ia H kvs kws → RKV K ia H (putAll kvs ks vs) (mergeK kws ((ks.zip ys).map fun p => (Sum.inr p.1, p.2)))
  | [], [], _, _, _, _, .nil, r => r
  | k :: ks, v :: vs, y :: ys, kvs, kws, hl, .cons q qs, r => putAll_ok (ks := ks) (vs := vs) (ys := ys) (by simpa using hl) qs (put_ok q (.inr k) r)
theorem zipS_eq : ∀ (ks : List Str) (ys : List V), zipS ks ys = ((ks.zip ys).map fun p => ((Sum.inr p.1 : Key), p.2)).map fun kv => (kV kv.1, kv.2)
  | [], _ => rfl
  | _ :: _, [] => rfl
  | k :: ks, y :: ys => by
    show (V.str k, y) :: zipS ks ys = _
    rw [zipS_eq ks ys]
    rfl
theorem d_dsp0 : PE X (.Dict [] [] pos) (tOf X.K ca W (fun sl h => .ok (.loc h.length) (h ++ [.dK []]))) := by
  refine pe_imp pe_dnewK fun st H Q t => ?_
  obtain ⟨ia, sl, h, R, S, r, q⟩ := t
  intro a na
  refine q [a] _ _ (Grow.push na) (R.push na ⟨[], upd_same, .nil⟩) (.loc ?_)
  rw [← R.len]
  simp
theorem pps_of {f : Expr → Option IE} {ev : IE → LS → LH → Res Val} (hf : ∀ e ie, f e = some ie → PE X e (tOf X.K ca W (ev ie))) : ∀ {keys : List (Option Expr)} {vals : List Expr} {ks : List Str} {is : List IE}, keyCs keys = some ks → mapX f vals = some is → keys.length = vals.length →
    PPs X pos keys vals (trsOf X.K ca W ev ks is) ∧ keys.all (·.isSome) = true ∧ ks.length = is.length
  | [], [], ks, is, h1, h2, _ => by
    cases h1
    cases h2
    exact ⟨pps_nil, rfl, rfl⟩
  | [], _ :: _, _, _, _, _, hl => by cases hl
  | _ :: _, [], _, _, _, _, hl => by cases hl
  | k :: keys, v :: vals, ks, is, h1, h2, hl => by
    unfold keyCs at h1
    split at h1
    · rename_i heq
      cases heq
    · rename_i k' _ _ keys' heq
      cases heq
      obtain ⟨ks', e1, e2⟩ := Option.map_eq_some_iff.mp h1
      subst e2
      unfold mapX at h2
      split at h2
      · rename_i i js z1 z2 z3
        cases h2
        obtain ⟨p1, p2, p3⟩ := pps_of hf e1 z3 (by simpa using hl)
        exact ⟨pps_cons pe_str (hf _ _ z2) p1, by simpa using p2, by simp [p3]⟩
      · cases h2
    · cases h1
theorem d_dsp {f : Expr → Option IE} {ev : IE → LS → LH → Res Val} (hf : ∀ e ie, f e = some ie → PE X e (tOf X.K ca W (ev ie))) {keys : List (Option Expr)} {vals : List Expr} {ks : List Str} {is : List IE} (h1 : keyCs keys = some ks) (h2 : mapX f vals = some is) (hl : keys.length = vals.length) (h0 : keys ≠ []) (h15 : keys.length ≤ 15) :
    PE X (.Dict keys vals pos) (tOf X.K ca W (vDsp ks (evL ev is))) := by
  obtain ⟨p1, p2, p3⟩ := pps_of (pos := pos) hf h1 h2 hl
  refine pe_imp (pe_disp p1 p2 hl h0 h15) fun st H Q t => ?_
  intro a na
  obtain ⟨ia, sl, h, R, S, r, q⟩ := t
  refine pairs_read ks is p3 (vs := []) (xs := []) ?_
  have R1 := R.push (o := .dK []) (O := .dK []) na ⟨[], upd_same, .nil⟩
  have g1 : Grow ia H [a] (upd H a (.dK [])) := Grow.push na
  refine ⟨ia ++ [a], sl, h ++ [.dK []], R1, S.grow g1 R, .nil, ?_⟩
  have q1 : Want X.K ca ia H ((evL ev is sl (h ++ [.dK []])).bind fun vs h1 => match h1[h.length]? with
    | some (.dK []) => chk (decide (ks.length = vs.length) && decide (ks.length ≤ 15)) (.ok (.loc h.length) (h1.set h.length (.dK (putAll [] ks vs))))
    | _ => .bad) Q (fun c d H' => W c d st H') := q
  cases ee : evL ev is sl (h ++ [.dK []]) with
  | bad => rw [ee] at q1; exact q1
  | exc c v h' =>
    rw [ee] at q1
    intro ka H' d y g R' hd r'
    rw [List.append_assoc] at R' r'
    exact q1 ([a] ++ ka) H' d y (g1.trans g) R' hd r'
  | ok vs h1 =>
    rw [ee] at q1
    intro ka H2 ys g R2 rs
    have q2 : Want X.K ca ia H (match h1[h.length]? with
      | some (.dK []) => chk (decide (ks.length = vs.length) && decide (ks.length ≤ 15)) (.ok (.loc h.length) (h1.set h.length (.dK (putAll [] ks vs))))
      | _ => .bad) Q (fun c d H' => W c d st H') := q1
    split at q2
    · rename_i em
      obtain ⟨cc, q3⟩ := chk_ok q2
      simp only [Bool.and_eq_true, decide_eq_true_eq] at cc
      have hi : (ia ++ [a] ++ ka)[h.length]? = some a := by
        rw [← R.len]
        simp
      obtain ⟨kws, h5, h6⟩ := R2.ob _ _ a em hi
      cases h6
      refine ⟨h5, (ks.zip ys).map (fun p => (Sum.inr p.1, p.2)), zipS_eq ks ys, ?_, ?_⟩
      · have := rs.len
        simp
        omega
      · have hk : Hold (ia ++ [a] ++ ka) [] H2 (upd H2 a (.dK (mergeK [] ((ks.zip ys).map fun p => (Sum.inr p.1, p.2))))) := Hold.set h5 (fun _ z => by cases z) (fun _ _ z => by cases z)
        have gg : Grow ia H ([a] ++ ka) H2 := g1.trans g
        have g3 := gg.trans (Grow.set (ia := ia ++ ([a] ++ ka)) (O := .dK (mergeK [] ((ks.zip ys).map fun p => (Sum.inr p.1, p.2)))) (by rw [← List.append_assoc]; exact hi) h5)
        rw [List.append_nil] at g3
        have R3 := R2.set (o := .dK (putAll [] ks vs)) hi hk ⟨_, upd_same, by
          have z := RKV.stay (ka := []) hk (putAll_ok cc.1 rs (kvs := []) (kws := []) .nil)
          rw [app_nil] at z
          exact z⟩
        rw [List.append_assoc] at R3
        exact q3 ([a] ++ ka) _ _ g3 R3 (.loc (by rw [← List.append_assoc]; exact hi))
    · exact (show False from q2).elim
end
end Mi

set_option Elab.async false
set_option linter.all false
set_option maxRecDepth 100000
set_option maxHeartbeats 2000000
/-! R4: defs that are called where no repr runs. -/
namespace Mi
open PySem L2 PyProof.Rows
/-- a def keeps its promise wherever no repr runs -/
structure FnG (P : Program) (w : World) (K : PySem.W.Frag) (mg : Str → Option Value) (base : Heap) (CX : CXT) (k : Nat) (f : Addr) (fd : FuncData) (ps : List Str) (sp : Sp) : Prop where
  len : ∀ vs H Q E, sp vs H Q E → vs.length = ps.length
  run : ∀ (A : Around) (outer : List Env) (s : Shared) (H : Hp) (args : Args) (us : List Value) (vs : List V) (Q : VK) (E : XK), A.guards = some [] → Room k A → Env0 P w K mg base A outer s H → BindsTo s fd args (ps.zip us) → Vals vs us → sp vs H Q E →
    codeAny (model P w) A (.call (.ref f) args) (CR CX outer P w H s Q E) s
section
variable {X : Cx} {CX : CXT} {k : Nat} {f : Addr} {fd : FuncData} {ps : List Str} {sp : Sp} {E : XK} {x : Str} {p pos : Pos} {e : Expr} {es : List Expr} {t : TA}
theorem run_fnG {pins : List (Addr × Obj)} {st : L2.St} {H : Hp} {s : Shared} {Q : VK} {us : List Value} {vs : List V} (F : FnG X.prog X.w X.K X.mg X.base CX k f fd ps sp) (hgd : X.A.guards = some []) (hr : Room k X.A) (hb : Binds X.K fd ps []) (hx : Passes CX X E)
    (I : Inv X pins st H s) (r : Vals vs us) (h : sp vs H Q E) : wpAny (model X.prog X.w) X.A (call (.ref f) us) (EP X pins st Q) X.xe s := by
  have hl : us.length = ps.length := by rw [← r.length]; exact F.len _ _ _ _ h
  have hb' := hb s us I.kIn (by rw [List.append_nil]; exact hl)
  rw [List.append_nil] at hb'
  refine wpAny_call (codeAny_mono (F.run X.A X.stack s H ⟨us, []⟩ us vs Q E hgd hr I.env0 hb' r h) fun r s' hq => ?_)
  cases r with
  | error e => exact hx pins st H s e s' I hq
  | ok fl =>
    cases fl with
    | ret u => exact I.after hq
    | next => exact False.elim hq
    | brk => exact False.elim hq
    | cont => exact False.elim hq
theorem pe_callG (F : FnG X.prog X.w X.K X.mg X.base CX k f fd ps sp) (hgd : X.A.guards = some []) (hr : Room k X.A) (hg : Gl X x) (hm : X.mg x = some (.ref f)) (hk : PySem.W.keepIn X.K (.ref f) = true) (hb : Binds X.K fd ps []) (hx : Passes CX X E)
    (ha : PA X (e :: es) t) (hdb : (x == ("__debug__" : Str)) = false) (he : starEach (e :: es) X.env = (false, eval e X.env) :: starEach es X.env) (hpl : (backTo pos (starEach es X.env)).any (·.1) = false) :
    PE X (.Call (.Name x p) (e :: es) [] pos) (tCall sp [] E t) := by
  refine ⟨fun pins s st H Q I h => ?_⟩
  refine wpAny_Call_Name_kw (ld_glob I hg hm ?_ hdb)
  refine PySem.W.callWith_K (h₀ := X.base) I.ok.mod.kin hk (thn (ha.run pos pins s st H _ I h) fun us s1 ⟨vs, H1, I1, r, q⟩ => ⟨I1.kIn, ?_⟩) he hpl
  have q' : sp (vs ++ []) H1 Q E := q
  rw [List.append_nil] at q'
  exact run_fnG F hgd hr hb hx I1 r q'
theorem pe_callG0 (F : FnG X.prog X.w X.K X.mg X.base CX k f fd ps sp) (hgd : X.A.guards = some []) (hr : Room k X.A) (hg : Gl X x) (hm : X.mg x = some (.ref f)) (hk : PySem.W.keepIn X.K (.ref f) = true) (hb : Binds X.K fd ps []) (hx : Passes CX X E)
    (hdb : (x == ("__debug__" : Str)) = false) : PE X (.Call (.Name x p) [] [] pos) (tCall sp [] E tNil) := by
  refine ⟨fun pins s st H Q I h => ?_⟩
  refine wpAny_Call_Name_kw (ld_glob I hg hm ?_ hdb)
  have q : sp [] H Q E := h
  exact PySem.W.callWith_K0 I.kIn hk (run_fnG (us := []) F hgd hr hb hx I .nil q)
end
section
variable {X : Cx} {ca : CaT} {W : WS} {E : XK} {a b c e o : Expr} {es : List Expr} {pos : Pos} {ma mb mo : M Val} {ml : M (List Val)}
/-- a def of the module is called -/
theorem d_cal {x : Str} {p : Pos} {k : Nat} {f : Addr} {fd : FuncData} {ps : List Str} {fr : List Val → LH → Res Val} (F : FnG X.prog X.w X.K X.mg X.base (L2.CX X.prog X.w) k f fd ps (spC X.K ca fr)) (hgd : X.A.guards = some []) (hr : Room k X.A) (hg : Gl X x) (hm : X.mg x = some (.ref f))
    (hk : PySem.W.keepIn X.K (.ref f) = true) (hb : Binds X.K fd ps []) (tk : Takes X (wE E)) (hn : okN x = true) (hne : es ≠ []) (hst : ∀ y ∈ es, noStar y = true) (ha : PA X es (tOfL X.K ca (wE E) ml)) :
    PE X (.Call (.Name x p) es [] pos) (tOf X.K ca (wE E) (fun sl h => (ml sl h).bind fun vs h1 => fr vs h1)) := by
  have hx : Passes (L2.CX X.prog X.w) X E := passes_call tk fun _ _ _ _ z => z
  have key : ∀ st H Q, tOf X.K ca (wE E) (fun sl h => (ml sl h).bind fun vs h1 => fr vs h1) st H Q → tCall (spC X.K ca fr) [] E (tOfL X.K ca (wE E) ml) st H Q := fun st H Q t =>
    tCL.mono (lst_call t) fun ys H1 ⟨ia, h, vs, R, r, q⟩ => by
      rw [List.append_nil]
      exact ⟨ia, h, vs, R, r, q⟩
  cases es with
  | nil => exact absurd rfl hne
  | cons e es =>
    exact pe_imp (pe_callG F hgd hr hg hm hk hb hx ha (okN_d hn).1 (star_cons (hst e List.mem_cons_self)) (star_none fun y hy => hst y (List.mem_cons_of_mem _ hy))) key
theorem d_cal0 {x : Str} {p : Pos} {k : Nat} {f : Addr} {fd : FuncData} {ps : List Str} {fr : List Val → LH → Res Val} (F : FnG X.prog X.w X.K X.mg X.base (L2.CX X.prog X.w) k f fd ps (spC X.K ca fr)) (hgd : X.A.guards = some []) (hr : Room k X.A) (hg : Gl X x) (hm : X.mg x = some (.ref f))
    (hk : PySem.W.keepIn X.K (.ref f) = true) (hb : Binds X.K fd ps []) (tk : Takes X (wE E)) (hn : okN x = true) :
    PE X (.Call (.Name x p) [] [] pos) (tOf X.K ca (wE E) (fun sl h => fr [] h)) := by
  have hx : Passes (L2.CX X.prog X.w) X E := passes_call tk fun _ _ _ _ z => z
  refine pe_imp (pe_callG0 F hgd hr hg hm hk hb hx (okN_d hn).1) fun st H Q t => ?_
  obtain ⟨ia, sl, h, R, S, r, q⟩ := t
  exact ⟨ia, h, [], R, .nil, q⟩
end
/-- a def by its body -/
theorem fnG_of {CX : CXT} {P : Program} {w : World} {K : PySem.W.Frag} {mg : Str → Option Value} {base : Heap} {k : Nat} {f : Addr} {x qual : Str} {st : Stmt} {fd : FuncData} {N ps : List Str} {sp : Sp} {dvs : List V} {kws : List (Str × V)} (F : FunD K x qual (defArgs st) (defBody st) (defScope st) dvs kws f fd) (S : FnScope N ps (defScope st)) (len : ∀ vs H Q E, sp vs H Q E → vs.length = ps.length)
    (hbody : ∀ (cdv : Value) (A : Around) (outer : List Env) (s : Shared) (H : Hp) (vs : List V) (Q : VK) (E : XK), fd.code = cdv → A.guards = some [] → Room k (A.deeper (envOfC qual (defScope st) s.heap.objs.size f cdv)) → sp vs H Q E →
      ∃ t, PSs (cxOf CX P w K mg base N qual (defScope st) f cdv A outer s H E) (defBody st) t ∧ t { nx := fun _ H' => Q .non H', rt := Q } (L2.start N vs) H) : FnG P w K mg base CX (k + 1) f fd ps sp := by
  obtain ⟨oc, od, dV, kV, doc, pm, an, cdv, ct, osl, rfl, lk, hcd, _, _⟩ := F.ex
  refine ⟨len, fun A outer s H args us vs Q E hgd hr e0 hb r hsp => ?_⟩
  have keep : ∀ b o, base.get? b = some o → s.heap.get? b = some o := fun b o z => (e0.bs b o z).1
  have KX : K.In s.heap := e0.mod.kin.keeps keep
  have binds : ∀ y ∈ ps.zip us, (defScope st).names.lookup y.1 = some .local ∨ ((defScope st).names.lookup y.1 = some .cell ∧ ((cellsFrom (s.heap.objs.size + 1) (defScope st).names []).lookup y.1).isSome = true) := by
    rintro ⟨n, v⟩ hy
    exact (S.par n (List.of_mem_zip hy).1).imp id fun z => ⟨z, PySem.W.cellsFrom_some _ _ _ (.inl z)⟩
  refine codeAny_call_function hr.depth (KX _ _ lk) rfl S.co S.gen rfl (PySem.W.codeRec_of KX hcd) (hb _ _ _ _ (wpAny_newFunctionEnv_cells S.kind binds fun env he s1 entry => ?_))
  subst he
  obtain ⟨t, walk, want⟩ := hbody cdv A outer s H vs Q E rfl hgd (hr.deeper _) hsp
  refine ⟨(e0.mod.nolimit.keeps keep).keeps entry.toInCall.keep, codeAny_func (wpAny_mono (walk.run [] s1 (L2.start N vs) H _ (inv_start S hr.hd e0 (len _ _ _ _ hsp) r entry) want) (fun fl s' ends => ?_) fun _ _ z => z)⟩
  cases fl with
  | ret u =>
    obtain ⟨v, _, H', J, rv, q⟩ := ends
    exact ⟨v, H', J.os, J.bare, J.base, J.hok, rv, q⟩
  | next =>
    obtain ⟨_, H', J, q⟩ := ends
    exact ⟨.non, H', J.os, J.bare, J.base, J.hok, rfl, q⟩
  | brk => exact (show False from ends.choose_spec.choose_spec.2).elim
  | cont => exact (show False from ends.choose_spec.choose_spec.2).elim
end Mi

set_option Elab.async false
set_option linter.all false
set_option maxRecDepth 100000
set_option maxHeartbeats 2000000
/-! C1: own classes: instances made, methods called, properties read, by promises that hold where no repr runs. -/
namespace Mi
open PySem L2 PyProof.Rows SlX
section
variable {X : Cx} {CX : CXT} {k : Nat} {f C : Addr} {fd : FuncData} {ps : List Str} {ds : List Value} {dvs : List V} {sp : Sp} {E : XK} {x m : Str} {p pos apos : Pos} {e o : Expr} {es : List Expr} {t : TA} {ta : TE}
theorem gd_make {A : Around} {us : List Value} {kw : List (Str × Value)} (h : A.guards = some []) : (A.under (.builtin "type.__call__" ⟨.ref C :: us, kw⟩)).guards = some [] := by
  first
    | exact h
    | simpa [Around.under, Code.isGuard, guardIds] using h
theorem gd_in1 {A : Around} (h : A.guards = some []) : A.in1.guards = some [] := by
  first
    | exact h
    | simpa [Around.in1] using h
theorem run_fnGd {pins : List (Addr × Obj)} {st : L2.St} {H : Hp} {s : Shared} {Q : VK} {us : List Value} {vs : List V} (F : FnG X.prog X.w X.K X.mg X.base CX k f fd ps sp) (hgd : X.A.guards = some []) (hr : Room k X.A) (hb : Binds X.K fd ps ds) (hd : Vals dvs ds) (hx : Passes CX X E)
    (I : Inv X pins st H s) (r : Vals vs us) (h : sp (vs ++ dvs) H Q E) : wpAny (model X.prog X.w) X.A (call (.ref f) us) (EP X pins st Q) X.xe s := by
  have r2 := r.append hd
  have hl : (us ++ ds).length = ps.length := by rw [← r2.length]; exact F.len _ _ _ _ h
  refine wpAny_call (codeAny_mono (F.run X.A X.stack s H ⟨us, []⟩ (us ++ ds) (vs ++ dvs) Q E hgd hr I.env0 (hb s us I.kIn hl) r2 h) fun r s' hq => ?_)
  cases r with
  | error e => exact hx pins st H s e s' I hq
  | ok fl =>
    cases fl with
    | ret u => exact I.after hq
    | next => exact False.elim hq
    | brk => exact False.elim hq
    | cont => exact False.elim hq
theorem run_makeG {pins : List (Addr × Obj)} {σ : L2.St} {H : Hp} {s : Shared} {Q : VK} {us : List Value} {vs : List V} (M : L2.Mk X.K C f) (F : FnG X.prog X.w X.K X.mg X.base CX k f fd ps sp) (hgd : X.A.guards = some []) (hr : Room (k + 1) X.A) (hb : Binds X.K fd ps ds) (hd : Vals dvs ds)
    (hx : Passes CX X E) (I : Inv X pins σ H s) (r : Vals vs us)
    (h : ∀ x dx, H x = none → H dx = none → dx ≠ x → sp (.ref x :: (vs ++ dvs)) (upd (upd H dx (.own x)) x (.ins C dx [])) (fun v H2 => v = .non ∧ Q (.ref x) H2) E) :
    wpAny (model X.prog X.w) X.A (call (.ref C) us) (EP X pins σ Q) X.xe s := by
  have hq := h (s.heap.objs.size + 1) s.heap.objs.size (I.hok.fresh (Nat.le_succ _)) (I.hok.fresh (Nat.le_refl _)) (Nat.ne_of_lt (Nat.lt_succ_self _))
  have I2 := Inv.made (C := C) I
  have r2 : Vals (V.ref (s.heap.objs.size + 1) :: (vs ++ dvs)) (Value.ref (s.heap.objs.size + 1) :: (us ++ ds)) := .cons rfl (r.append hd)
  have hl : (Value.ref (s.heap.objs.size + 1) :: us ++ ds).length = ps.length := by
    have e := r2.length
    rw [F.len _ _ _ _ hq] at e
    exact e.symm
  have go := F.run _ X.stack _ _ ⟨Value.ref (s.heap.objs.size + 1) :: us, []⟩ _ _ _ E (gd_make (C := C) (us := us) (kw := []) hgd) (hr.make C us []) (I2.env0.make C us []) (hb _ (Value.ref (s.heap.objs.size + 1) :: us) I2.kIn hl) r2 hq
  refine wpAny_call (make_map (f := f) I.kIn M.makes M.init (beq_iff_eq.mp M.fn) (codeAny_mono go fun r s' hq' => ?_))
  cases r with
  | error e => exact hx pins σ _ _ e s' I2 hq'
  | ok fl =>
    cases fl with
    | ret u =>
      obtain ⟨v, H', I3, rv, ev, q3⟩ := I2.after hq'
      subst ev
      exact ⟨rv, ⟨V.ref (s.heap.objs.size + 1), H', I3, rfl, q3⟩⟩
    | next => exact False.elim hq'
    | brk => exact False.elim hq'
    | cont => exact False.elim hq'
theorem pe_makeG (M : L2.Mk X.K C f) (F : FnG X.prog X.w X.K X.mg X.base CX k f fd ps sp) (hgd : X.A.guards = some []) (hr : Room (k + 1) X.A) (hg : Gl X x) (hm : X.mg x = some (.ref C)) (hb : Binds X.K fd ps ds) (hd : Vals dvs ds) (hx : Passes CX X E)
    (ha : PA X (e :: es) t) (hdb : (x == ("__debug__" : Str)) = false) (he : starEach (e :: es) X.env = (false, eval e X.env) :: starEach es X.env) (hpl : (backTo pos (starEach es X.env)).any (·.1) = false) :
    PE X (.Call (.Name x p) (e :: es) [] pos) (tMake C sp dvs E t) := by
  refine ⟨fun pins s σ H Q I h => ?_⟩
  refine wpAny_Call_Name_kw (ld_glob I hg hm ?_ hdb)
  refine PySem.W.callWith_K (h₀ := X.base) I.ok.mod.kin M.kp (thn (ha.run pos pins s σ H _ I h) fun us s1 ⟨vs, H1, I1, r, q⟩ => ⟨I1.kIn, ?_⟩) he hpl
  exact run_makeG M F hgd hr hb hd hx I1 r q
theorem pe_makeG0 (M : L2.Mk X.K C f) (F : FnG X.prog X.w X.K X.mg X.base CX k f fd ps sp) (hgd : X.A.guards = some []) (hr : Room (k + 1) X.A) (hg : Gl X x) (hm : X.mg x = some (.ref C)) (hb : Binds X.K fd ps ds) (hd : Vals dvs ds) (hx : Passes CX X E)
    (hdb : (x == ("__debug__" : Str)) = false) : PE X (.Call (.Name x p) [] [] pos) (tMake C sp dvs E tNil) := by
  refine ⟨fun pins s σ H Q I h => ?_⟩
  refine wpAny_Call_Name_kw (ld_glob I hg hm ?_ hdb)
  exact PySem.W.callWith_K0 I.kIn M.kp (run_makeG (us := []) M F hgd hr hb hd hx I .nil h)
/-- a method of an instance with slots; which class is open until the receiver is known -/
def tMethD (T : Addr → Option (List Str) → Sp → List V → Prop) (E : XK) (ta : TE) (t : TA) : TE := fun σ H Q => ta σ H fun x H1 => ∃ a C dx vs dn sp dvs, x = .ref a ∧ Ist dn H1 a C dx vs ∧ T C dn sp dvs ∧ t σ H1 fun ws H2 => sp (x :: (ws ++ dvs)) H2 Q E
theorem pe_methD {pl : Sem Bool} {T : Addr → Option (List Str) → Sp → List V → Prop} (he : PE X o ta) (hT : ∀ C dn sp dvs, T C dn sp dvs → ClOk X.K C dn ∧ NoF dn m ∧ ∃ g fd ps ds, Meth X.K C m g ∧ FnG X.prog X.w X.K X.mg X.base CX k g fd ps sp ∧ Binds X.K fd ps ds ∧ Vals dvs ds) (hgd : X.A.guards = some []) (hr : Room k X.A) (hx : Passes CX X E) (ha : PA X (e :: es) t)
    (hst : starEach (e :: es) X.env = (false, eval e X.env) :: starEach es X.env) (hpl : (backTo pos (starEach es X.env)).any (·.1) = false)
    (ht : eval (.Call (.Attribute o m apos) (e :: es) [] pos) X.env = (do
      let ov ← eval o X.env
      standAt apos.atName
      let (f, first) ← holding [ov] (getMethod ov m pl)
      callWith pos f first (backTo pos (starEach (e :: es) X.env)) (backToKw pos (keywordEach [] X.env)))) :
    PE X (.Call (.Attribute o m apos) (e :: es) [] pos) (tMethD T E ta t) := by
  refine ⟨fun pins s σ H Q I h => ?_⟩
  refine PySem.W.methodCall_KW (pl := pl) (thn (he.run pins s σ H _ I h) fun u s1 ⟨x, H1, I1, rx, a, C, dx, vs, dn, sp, dvs, ex, hsl, hc, q⟩ => ?_) ht
  subst ex
  obtain rfl : u = Value.ref a := rx
  obtain ⟨c, nf, g, fd, ps, ds, hm, F, hb, hd⟩ := hT C dn sp dvs hc
  refine ist_meth I1 hsl c hm nf ?_
  refine PySem.W.callWith_K (first := [.ref a]) (h₀ := X.base) I.ok.mod.kin hm.kp (thn (ha.run pos pins s1 σ H1 _ I1 q) fun us s2 ⟨ws, H2, I2, r, q2⟩ => ⟨I2.kIn, ?_⟩) hst hpl
  exact run_fnGd (us := .ref a :: us) (vs := .ref a :: ws) F hgd hr hb hd hx I2 (.cons rfl r) q2
theorem pe_methD0 {pl : Sem Bool} {T : Addr → Option (List Str) → Sp → List V → Prop} (he : PE X o ta) (hT : ∀ C dn sp dvs, T C dn sp dvs → ClOk X.K C dn ∧ NoF dn m ∧ ∃ g fd ps ds, Meth X.K C m g ∧ FnG X.prog X.w X.K X.mg X.base CX k g fd ps sp ∧ Binds X.K fd ps ds ∧ Vals dvs ds) (hgd : X.A.guards = some []) (hr : Room k X.A) (hx : Passes CX X E)
    (ht : eval (.Call (.Attribute o m apos) [] [] pos) X.env = (do
      let ov ← eval o X.env
      standAt apos.atName
      let (f, first) ← holding [ov] (getMethod ov m pl)
      callWith pos f first (backTo pos (starEach [] X.env)) (backToKw pos (keywordEach [] X.env)))) :
    PE X (.Call (.Attribute o m apos) [] [] pos) (tMethD T E ta tNil) := by
  refine ⟨fun pins s σ H Q I h => ?_⟩
  refine PySem.W.methodCall_KW (pl := pl) (thn (he.run pins s σ H _ I h) fun u s1 ⟨x, H1, I1, rx, a, C, dx, vs, dn, sp, dvs, ex, hsl, hc, q⟩ => ?_) ht
  subst ex
  obtain rfl : u = Value.ref a := rx
  obtain ⟨c, nf, g, fd, ps, ds, hm, F, hb, hd⟩ := hT C dn sp dvs hc
  refine ist_meth I1 hsl c hm nf ?_
  exact PySem.W.callWith_K0 (first := [.ref a]) I1.kIn hm.kp (run_fnGd (us := [.ref a]) (vs := [.ref a]) F hgd hr hb hd hx I1 (.cons rfl .nil) q)
end
end Mi

set_option Elab.async false
set_option linter.all false
set_option maxRecDepth 100000
set_option maxHeartbeats 2000000
/-! C2: attributes of instances with slots: slots and properties. -/
namespace Mi
open PySem L2 PyProof.Rows SlX
/-- the property f of the class at C, its getter at g -/
structure PropK (K : PySem.W.Frag) (C : Addr) (f : Str) (g : Addr) : Prop where
  ex : ∃ p rest, PySem.W.findIn K (.ref C) f = some (some (.ref p)) ∧ PySem.W.specialIn K (.ref p) "__get__" = some (some (.builtin "property.__get__")) ∧ PySem.W.takesIn K (.ref p) = some true ∧ PySem.W.recIn K p "property" = some (.ref g :: rest)
/-- nothing that is raised leaves -/
theorem cx_no {P : Program} {w : World} {stk : List Env} {H : Hp} {s s' : Shared} {e : Value} (z : L2.CX P w stk H s (fun _ _ _ => False) e s') : False := by
  obtain ⟨_, _, _, _, _, _, _, _, _, _, _, _, z⟩ := z
  exact z
section
variable {X : Cx} {n : Nat} {f : Str} {g C a dx : Addr} {fd : FuncData} {ps : List Str} {sp : Sp} {pos : Pos} {e : Expr} {ta : TE} {pins : List (Addr × Obj)} {σ : L2.St} {H : Hp} {s : Shared} {vs : List (Option V)}
theorem getprop_slG {b : Bool} {Q : VK} {dn : Option (List Str)} (I : Inv X pins σ H s) (h : Ist dn H a C dx vs) (c : ClOk X.K C dn) (P : PropK X.K C f g) (F : FnG X.prog X.w X.K X.mg X.base (L2.CX X.prog X.w) n g fd ps sp) (hb : Binds X.K fd ps []) (hgd : X.A.guards = some []) (hr : Room (n + 1) X.A)
    (q : sp [.ref a] H Q fun _ _ _ => False) : wpAny (model X.prog X.w) X.A (getAttr (.ref a) f b) (EP X pins σ Q) X.xe s := by
  obtain ⟨ox, od, _, J, _⟩ := ist_inst I h
  obtain ⟨p, rest, at_, get, tk, hrec⟩ := P.ex
  have I1 : Inv X pins σ H { s with toks := s.toks + 1 } := I.tok (s.toks + 1)
  have hl : ([Value.ref a] : List Value).length = ps.length := F.len _ _ _ _ q
  have hb' := hb { s with toks := s.toks + 1 } [.ref a] I1.kIn (by rw [List.append_nil]; exact hl)
  rw [List.append_nil] at hb'
  have go := F.run X.A.in1 X.stack { s with toks := s.toks + 1 } H ⟨[.ref a], []⟩ [.ref a] [.ref a] Q (fun _ _ _ => False) (gd_in1 hgd) hr.in1 I1.env0.in1 hb' (.cons rfl .nil) q
  refine PySem.W.get_bind I.kIn J (PySem.W.plainGet_of (c.get f)).1 (PySem.W.findObj_data c.ic at_ get tk) (PySem.W.plainGet_of (c.get f)).2 (wpAny_call (PySem.W.prop_get (s := { s with toks := s.toks + 1 }) I.kIn hrec ?_))
  refine codeAny_mono go fun r s' hq => ?_
  cases r with
  | error e => exact (cx_no hq).elim
  | ok fl =>
    cases fl with
    | ret u =>
      obtain ⟨v, H', I2, rv, q⟩ := I1.after hq
      exact wpAny_of_eq (PySem.W.handedOut_of (handed_of rv)) ⟨v, H', I2, rv, q⟩
    | next => exact False.elim hq
    | brk => exact False.elim hq
    | cont => exact False.elim hq
/-- e.f: a slot, or a property -/
def tAttD (K : PySem.W.Frag) (T : Addr → Sp → Prop) (ta : TE) (f : Str) : TE := fun σ H Q => ta σ H fun x H1 => ∃ a C dx vs dn, x = .ref a ∧ Ist dn H1 a C dx vs ∧ ClOk K C dn ∧ ((∃ i v, Fld K C dn f i ∧ vs[i]? = some (some v) ∧ Q v H1) ∨ ∃ sp, T C sp ∧ sp [.ref a] H1 Q fun _ _ _ => False)
theorem pe_attD {T : Addr → Sp → Prop} (he : PE X e ta) (hT : ∀ C sp, T C sp → ∃ n g fd ps, Room (n + 1) X.A ∧ PropK X.K C f g ∧ FnG X.prog X.w X.K X.mg X.base (L2.CX X.prog X.w) n g fd ps sp ∧ Binds X.K fd ps []) (hgd : X.A.guards = some [])
    (hb : attributeBase e f X.env (eval e X.env) = eval e X.env) : PE X (.Attribute e f pos) (tAttD X.K T ta f) := by
  refine ⟨fun pins s σ H Q I h => ?_⟩
  refine attr_of hb (thn (he.run pins s σ H _ I h) fun w s1 hh => ?_)
  obtain ⟨x, H1, I1, rx, a, C, dx, vs, dn, ex, hs, c, q⟩ := hh
  subst ex
  obtain rfl : w = Value.ref a := rx
  rcases q with ⟨i, v, t, l, q⟩ | ⟨sp, hc, q⟩
  · exact ist_get I1 hs c t l fun u' s2 I2 ru => ⟨v, H1, I2, ru, q⟩
  · obtain ⟨n, g, fd, ps, hr, P, F, hb2⟩ := hT C sp hc
    exact getprop_slG I1 hs c P F hb2 hgd hr q
end
end Mi

set_option Elab.async false
set_option linter.all false
set_option maxRecDepth 100000
set_option maxHeartbeats 2000000
/-! R5: an own exception raised. -/
namespace Mi
open PySem L2 PyProof.Rows
section
variable {X : Cx} {C : Addr} {x : Str} {e : Expr} {te : TE} {p pos : Pos}
theorem pmk_err (T : ErrK X.prog X.K C) (hrs : Raises X (.ref C)) (hr : Room 0 X.A) (hg : Gl X x) (hm : X.mg x = some (.ref C)) (he : PE X e te) (hst : noStar e = true) (hn : okN x = true) :
    PMk X (.Call (.Name x p) [e] [] pos) (fun st H Q => te st H fun y H1 => ∀ d H2, H1 d = none → (∀ b, b ≠ d → (∀ o, H1 b = some o → H2 b = some o) ∧ (H1 b = none → H2 b = none)) → H2 d = some (.xd [("value", y)]) → Q (.ref C) (some d) H2) := by
  obtain ⟨fI, D, TE⟩ := T.made
  have T := TE.oex
  intro pins s st H Q I h
  have ha : PA X [e] (tCons te tNil) := pa_cons he pa_nil (star_cons hst)
  obtain ⟨nm, q, N, bs, bm, sn, sub, ab, col, dd, k0, k1, k2, k3, k5, hC, hbm⟩ := T.cls
  refine wpAny_Call_Name_kw (ld_glob I hg hm ?_ (okN_d hn).1)
  refine PySem.W.callWith_K (h₀ := X.base) I.ok.mod.kin T.kC (thn (ha.run pos pins s st H (fun vs H1 => match vs with
    | [y] => ∀ d H2, H1 d = none → (∀ b, b ≠ d → (∀ o, H1 b = some o → H2 b = some o) ∧ (H1 b = none → H2 b = none)) → H2 d = some (.xd [("value", y)]) → Q (.ref C) (some d) H2
    | _ => False) I h) fun us s1 ⟨vs, H1, I1, r1, q0⟩ => ⟨I1.kIn, ?_⟩) (star_cons hst) rfl
  obtain ⟨y, ev, q1⟩ : ∃ y, vs = [y] ∧ ∀ d H2, H1 d = none → (∀ b, b ≠ d → (∀ o, H1 b = some o → H2 b = some o) ∧ (H1 b = none → H2 b = none)) → H2 d = some (.xd [("value", y)]) → Q (.ref C) (some d) H2 := by
    match vs, q0 with
    | [y], q0 => exact ⟨y, rfl, q0⟩
  subst ev
  show wpAny _ _ (call (.ref C) us) _ _ _
  obtain ⟨u, rfl, ry⟩ : ∃ u, us = [u] ∧ RelV y u := by
    cases r1 with
    | cons a b =>
      cases b
      exact ⟨_, rfl, a⟩
  obtain ⟨mb, hb1, hb2⟩ := I1.mod.blt
  have lim := I1.nolimit
  have gl := I1.mod.glob.keeps I1.bk
  have bl := hb1.keeps I1.bk
  have KX := I1.kIn
  obtain ⟨hp, g, dr, tk, os⟩ := s1
  have kk : ∀ b o, hp.get? b = some o → ((hp.push (PySem.W.kdv_tup [u])).push (PySem.HandSPX.excO C hp.objs.size)).get? b = some o := fun b o e => Heap.get?_push_of_some _ (Heap.get?_push_of_some _ e)
  have hget : ((hp.push (PySem.W.kdv_tup [u])).push (PySem.HandSPX.excO C hp.objs.size)).get? (hp.objs.size + 1) = some (PySem.HandSPX.excO C hp.objs.size) := by heap_get
  have ek : X.K.lookup (hp.objs.size + 1) = none := by
    cases z : X.K.lookup (hp.objs.size + 1) with
    | none => rfl
    | some o =>
      have y := Heap.lt_size (KX _ _ z)
      exact absurd (Nat.lt_of_succ_lt y) (Nat.lt_irrefl _)
  have hnx : H1 (hp.objs.size + 1) = none := I1.hok.fresh (Nat.le_succ _)
  refine wpAny_call (PySem.HandSPX.call_own F.excBase_ValueError (fun Y => PySem.HandSPX.refsVE_contains Y bm hbm) (KX _ _ hC) (PySem.W.looks_findIn KX TE.init) (fun self => PySem.W.bind_fn KX self TE.tI) (show 1 ≤ sizeLine by decide)
    (err_init TE (KX.keeps kk) (by rw [make_depth]; have := hr.dp; omega) (lim.keeps kk) (gl.keeps kk) (bl.keeps kk) hb2 hget ek fun h' tk' dx t1 k dn dne hx hns => ?_))
  refine ⟨rfl, ?_⟩
  have dn' : hp.objs.size + 2 ≤ dx := Nat.le_trans (Nat.le_of_eq (by simp [Heap.size_push])) dn
  have hnd : H1 dx = none := I1.hok.fresh (Nat.le_trans (Nat.le_add_right _ 2) dn')
  have out : ∀ {b : Addr} {o : HO}, H1 b = some o → upd (upd H1 dx (exd dx [("value", y)])) (hp.objs.size + 1) (exo (hp.objs.size + 1) C (some dx)) b = some o := fun {b o} z => by
    rw [upd_ne (ne_of_none z hnx), upd_ne (ne_of_none z hnd)]
    exact z
  have bne : ∀ {b : Addr} {o : Obj}, ((hp.push (PySem.W.kdv_tup [u])).push (PySem.HandSPX.excO C hp.objs.size)).get? b = some o → b ≠ dx := fun {b o} z w => by
    have y := Heap.lt_size z
    rw [w] at y
    exact absurd (Nat.lt_of_lt_of_le y dn) (Nat.lt_irrefl _)
  have none_of : ∀ {b : Addr}, upd H1 (hp.objs.size + 1) (exo (hp.objs.size + 1) C none) b = none → b ≠ hp.objs.size + 1 ∧ H1 b = none := fun {b} z => by
    by_cases hb : b = hp.objs.size + 1
    · rw [hb, upd_same] at z
      cases z
    · rw [upd_ne hb] at z
      exact ⟨hb, z⟩
  have some_of : ∀ {b : Addr} {o : HO}, upd H1 (hp.objs.size + 1) (exo (hp.objs.size + 1) C none) b = some o → (∀ f, o ≠ .ext f) → H1 b = some o := fun {b o} z n => by
    by_cases hb : b = hp.objs.size + 1
    · rw [hb, upd_same] at z
      exact absurd (Option.some.inj z).symm (n _)
    · rw [upd_ne hb] at z
      exact z
  have un : Un (frs X.stack) [] (upd H1 (hp.objs.size + 1) (exo (hp.objs.size + 1) C none)) (upd (upd H1 dx (exd dx [("value", y)])) (hp.objs.size + 1) (exo (hp.objs.size + 1) C (some dx))) ((hp.push (PySem.W.kdv_tup [u])).push (PySem.HandSPX.excO C hp.objs.size)) h' :=
    ⟨fun b o z n _ _ => k b o (none_of n).1 z, fun b o z n _ _ => ⟨o.slots, k b o (none_of n).1 z⟩, fun b o z n _ => by
      rw [upd_ne (none_of n).1, upd_ne (bne z)]
      exact (none_of n).2, fun b o z _ => by
      by_cases hb : b = hp.objs.size + 1
      · rw [hb]
        exact ⟨_, hx⟩
      · exact ⟨o, k b o hb z⟩, fun b xs z => out (some_of z fun _ w => by cases w), fun b o v z => out (some_of z fun _ w => by cases w), fun b ps z => ⟨#[], by rw [out (some_of z fun _ w => by cases w)]; simp⟩⟩
  have nd : ∀ {b : Addr} {o : Obj}, hp.get? b = some o → b ≠ hp.objs.size + 1 ∧ b ≠ dx := fun {b o} z => by
    have y := Heap.lt_size z
    exact ⟨Nat.ne_of_lt (Nat.lt_succ_of_lt y), Nat.ne_of_lt (Nat.lt_of_lt_of_le y (Nat.le_trans (Nat.le_add_right _ 2) dn'))⟩
  have kp : ∀ b o, hp.get? b = some o → h'.get? b = some o := fun b o z => k b o (nd z).1 (kk b o z)
  have hok : HOk X.prog X.w (upd (upd H1 dx (exd dx [("value", y)])) (hp.objs.size + 1) (exo (hp.objs.size + 1) C (some dx))) h' := fun b o z => by
    by_cases hb : b = hp.objs.size + 1
    · subst hb
      rw [upd_same] at z
      cases z
      exact exo_ok hx
    · rw [upd_ne hb] at z
      by_cases hd : b = dx
      · subst hd
        rw [upd_same] at z
        cases z
        refine exd_ok hns fun f => ?_
        have := relO_put (f := ("value" : Str)) (fs := []) (mA := fun _ => none) ry (fun g => True.intro) f
        exact this
      · rw [upd_ne hd] at z
        exact (I1.hok b o z).stay (fun c v _ y => kp c v y) (fun c hc => out hc) (fun c xs hc => out hc)
  refine mk_end hrs I1 (Nat.le_succ _) kk un hok rfl I1.bare upd_same (by rw [upd_ne dne]; exact upd_same) hnd (q1 dx _ hnd (fun b hb => ⟨fun o z => ?_, fun z => ?_⟩) upd_same)
  · rw [upd_ne hb]
    by_cases ha : b = hp.objs.size + 1
    · rw [ha, hnx] at z
      cases z
    · rw [del_ne ha]
      exact out z
  · rw [upd_ne hb]
    by_cases ha : b = hp.objs.size + 1
    · rw [ha]
      exact del_same
    · rw [del_ne ha, upd_ne ha, upd_ne hb]
      exact z
end
end Mi

set_option Elab.async false
set_option linter.all false
set_option maxRecDepth 100000
set_option maxHeartbeats 2000000
/-! C3: instances by their runs. -/
namespace Mi
open PySem L2 PyProof.Rows SlX
/-- what the written part says of a class with slots -/
structure ClsK (K : PySem.W.Frag) (C : Addr) (dn : Option (List Str)) (I : ClsI) : Prop where
  sc : ClOk K C dn
  si : SIsi K C
  slot : ∀ f i, slotI I f = some i → Fld K C dn f i
  nof : ∀ m k, I.meths.lookup m = some k → NoF dn m
/-- what is left out of a call -/
def DflK (K : PySem.W.Frag) (fd : FuncData) (ps : List Str) (dfl : List Val) : Prop := ∀ j, ∃ ds dvs, Binds K fd ps ds ∧ Vals dvs ds ∧ ∀ ia H, RVs K ia H (dfl.drop j) dvs
theorem want_no {K : PySem.W.Frag} {ca : CaT} {ia : List Addr} {H : Hp} {r : Res Val} {Q : VK} {E : XK} (w : Want K ca ia H (calm r) Q E) : Want K ca ia H r Q fun _ _ _ => False := by
  cases r with
  | bad => exact w
  | exc _ _ _ => exact (show False from w).elim
  | ok v h => exact w
section
variable {X : Cx} {ca : CaT} {E : XK} {e o : Expr} {es : List Expr} {pos : Pos} {ma mo : M Val} {ml : M (List Val)} {G : Prg} {r : EV} {d : Nat} {f x m : Str}
theorem ins_at {K : PySem.W.Frag} {ia : List Addr} {H : Hp} {h : LH} {v : Val} {y : V} {c : Str} {fs : List (Option Val)} (R : Rep K ca ia H h) (ry : RV K ia H v y) (e : insO v h = some (c, fs)) :
    ∃ n a dx vs, v = .loc n ∧ y = .ref a ∧ ia[n]? = some a ∧ h[n]? = some (.slt c fs) ∧ Ist (ca.dn c) H a (ca c) dx vs ∧ dx ∉ ia ∧ (H dx = some (.own a) ∨ H dx = some (.xd [])) ∧ ∀ (i : Nat) (v : Val), fs[i]? = some (some v) → ∃ w, vs[i]? = some (some w) ∧ RV K ia H v w := by
  unfold insO at e
  split at e
  · rename_i n
    split at e
    · rename_i c' fs' hn
      cases e
      cases ry with
      | loc q =>
        obtain ⟨dx, vs, h1, h2, h3, h4⟩ := R.ob n _ _ hn q
        exact ⟨n, _, dx, vs, rfl, rfl, q, hn, h1, h2, h3, h4⟩
    · cases e
  · cases e
/-- e.f -/
theorem d_att (hC : ∀ c I, G.cls.lookup c = some I → ClsK X.K (ca c) (ca.dn c) I)
    (hP : ∀ d' c I k, d = d' + 2 → G.cls.lookup c = some I → I.props.lookup f = some k → ∃ g fd ps, PropK X.K (ca c) f g ∧ FnG X.prog X.w X.K X.mg X.base (L2.CX X.prog X.w) (d' + 1) g fd ps (spC X.K ca (r.c d' k)) ∧ Binds X.K fd ps [])
    (hgd : X.A.guards = some []) (hr : Room d X.A) (hp : plainO e = true) (he : PE X e (tOf X.K ca (wE E) ma)) :
    PE X (.Attribute e f pos) (tOf X.K ca (wE E) (fun sl h => (ma sl h).bind fun v h1 => stAtt G r d v f h1)) := by
  refine pe_imp (pe_attD (T := fun C sp => ∃ d' c I k, d = d' + 2 ∧ C = ca c ∧ G.cls.lookup c = some I ∧ I.props.lookup f = some k ∧ sp = spC X.K ca (r.c d' k)) he (fun C sp hT => ?_) hgd (plain_base hp)) fun st H Q t => ?_
  · obtain ⟨d', c, I, k, hd, rfl, h1, h2, rfl⟩ := hT
    obtain ⟨g, fd, ps, p1, p2, p3⟩ := hP d' c I k hd h1 h2
    exact ⟨d' + 1, g, fd, ps, by rw [hd] at hr; exact hr, p1, p2, p3⟩
  · refine (tC.step (f := fun v sl h1 => stAtt G r d v f h1) t).mono fun y H1 ⟨v, t1⟩ => ?_
    obtain ⟨ia, sl, h, R, S, rr, q⟩ := t1
    cases rr with
    | cons ry _ =>
      dsimp only [stAtt] at q
      cases ea : attO G v f h with
      | none => rw [ea] at q; exact (show False from q).elim
      | some w =>
        rw [ea] at q
        unfold attO at ea
        split at ea
        · rename_i c fs ei
          split at ea
          · rename_i I hI
            obtain ⟨j, a, dx, vs, hv, hy, hj, hh, hs, _, _, hf⟩ := ins_at R ry ei
            subst hv hy
            have hc := hC c I hI
            refine ⟨a, ca c, dx, vs, _, rfl, hs, hc.sc, ?_⟩
            split at ea
            · rename_i i hi
              split at ea
              · rename_i w' hw
                cases ea
                obtain ⟨y', e1, e2⟩ := hf i w' hw
                exact .inl ⟨i, y', hc.slot f i hi, e1, Want.now q R e2⟩
              · cases ea
            · obtain ⟨k, e1, e2⟩ := Option.map_eq_some_iff.mp ea
              subst e2
              match d, q with
              | 0, q => exact (show False from q).elim
              | 1, q => exact (show False from q).elim
              | d' + 2, q => exact .inr ⟨_, ⟨d', c, I, k, rfl, rfl, hI, e1, rfl⟩, ia, h, [.loc j], R, .cons (.loc hj) .nil, want_no q⟩
          · cases ea
        · cases ea
/-- o.m(..) -/
theorem fill_ok {K : PySem.W.Frag} {fd : FuncData} {ps : List Str} {D : DefI} {k : Nat} {vs : List Val} (hD : G.defs[k]? = some D) (h : DflK K fd ps D.dfl) : ∃ ds dvs, Binds K fd ps ds ∧ Vals dvs ds ∧ ∀ {ia H ys}, RVs K ia H vs ys → RVs K ia H (fillV G k vs) (ys ++ dvs) := by
  obtain ⟨ds, dvs, h1, h2, h3⟩ := h (vs.length + D.dfl.length - D.ps)
  refine ⟨ds, dvs, h1, h2, fun {ia H ys} r => ?_⟩
  unfold fillV
  rw [hD]
  exact r.app (h3 ia H)
/-- method calls are plain attribute calls -/
theorem mcl_eval {ap cp : Pos} (hp : plainO o = true) (hl : (ap.endLine == cp.line) = true) (hst : ∀ y ∈ es, noStar y = true) (hn : es.length < 29) : eval (.Call (.Attribute o m ap) es [] cp) X.env = (do
    let ov ← eval o X.env
    standAt ap.atName
    let (f, first) ← holding [ov] (getMethod ov m (L2.plainOf o X.env))
    callWith cp f first (backTo cp (starEach es X.env)) (backToKw cp (keywordEach [] X.env))) := by
  have hf := few_ok (X := X) (cp := cp) hst hn
  have e1 : ∀ ov, methodCall o m ap cp X.env ov (es.length + ([] : List Keyword).length) (backTo cp (starEach es X.env)) (backToKw cp (keywordEach [] X.env)) = (do
    let (f, first) ← holding [ov] (getMethod ov m (L2.plainOf o X.env))
    callWith cp f first (backTo cp (starEach es X.env)) (backToKw cp (keywordEach [] X.env))) := fun ov => L2.mcall_line hf hl
  show (do
    let ov ← attributeBase o m X.env (eval o X.env)
    standAt ap.atName
    methodCall o m ap cp X.env ov (es.length + ([] : List Keyword).length) (backTo cp (starEach es X.env)) (backToKw cp (keywordEach [] X.env))) = _
  rw [plain_base hp]
  simp only [e1]
theorem split_rvs {K : PySem.W.Frag} {ia : List Addr} {H : Hp} : ∀ {a b : List Val} {c d : List V}, a.length = c.length → RVs K ia H (a ++ b) (c ++ d) → RVs K ia H a c ∧ RVs K ia H b d := by
  intro a
  induction a with
  | nil =>
    intro b c d hl r
    cases c with
    | nil => exact ⟨.nil, r⟩
    | cons _ _ => cases hl
  | cons x a ih =>
    intro b c d hl r
    cases c with
    | nil => cases hl
    | cons y c =>
      cases r with
      | cons r1 r2 =>
        obtain ⟨q1, q2⟩ := ih (by simpa using hl) r2
        exact ⟨.cons r1 q1, q2⟩
/-- what a method, an __init__ is -/
def MethK (X : Cx) (ca : CaT) (G : Prg) (r : EV) (d' : Nat) (C : Addr) (m : Str) (k : Nat) : Prop := ∃ g fd ps D, Meth X.K C m g ∧ FnG X.prog X.w X.K X.mg X.base (L2.CX X.prog X.w) (d' + 1) g fd ps (spC X.K ca (r.c d' k)) ∧ G.defs[k]? = some D ∧ DflK X.K fd ps D.dfl
theorem evL_len {ev : IE → LS → LH → Res Val} : ∀ {is : List IE} {sl : LS} {h h1 : LH} {vs : List Val}, evL ev is sl h = .ok vs h1 → vs.length = is.length
  | [], sl, h, h1, vs, e => by cases e; rfl
  | i :: is, sl, h, h1, vs, e => by
    unfold evL at e
    cases e1 : ev i sl h with
    | bad => rw [e1] at e; cases e
    | exc _ _ _ => rw [e1] at e; cases e
    | ok v h2 =>
      rw [e1] at e
      have e : (evL ev is sl h2).bind (fun ws h3 => Res.ok (v :: ws) h3) = .ok vs h1 := e
      cases e2 : evL ev is sl h2 with
      | bad => rw [e2] at e; cases e
      | exc _ _ _ => rw [e2] at e; cases e
      | ok ws h3 =>
        rw [e2] at e
        cases e
        simp [evL_len e2]
/-- arguments behind a value in hand -/
theorem args_step {ev : IE → LS → LH → Res Val} {is : List IE} {v : Val} {y : V} {fr : List Val → LH → Res Val} {st : L2.St} {H : Hp} {Q : VK} {W : WS} {ia : List Addr} {sl : LS} {h : LH} (R : Rep X.K ca ia H h) (S : RS X.K ia H sl st) (ry : RV X.K ia H v y)
    (q : Want X.K ca ia H ((evL ev is sl h).bind fun ws h2 => fr ws h2) Q fun c d H' => W c d st H') :
    tOfL X.K ca W (evL ev is) st H fun ys H2 => ∃ ia2 h2 ws, Rep X.K ca ia2 H2 h2 ∧ RV X.K ia2 H2 v y ∧ RVs X.K ia2 H2 ws ys ∧ ws.length = is.length ∧ Want X.K ca ia2 H2 (fr ws h2) Q fun c d H' => W c d st H' := by
  refine ⟨ia, sl, h, R, S, .nil, ?_⟩
  cases e : evL ev is sl h with
  | bad => rw [e] at q; exact q
  | exc c w h1 => rw [e] at q; exact q
  | ok ws h2 =>
    rw [e] at q
    exact fun ka H2 ys g R2 r2 => ⟨ia ++ ka, h2, ws, R2, ry.grow g R, r2, evL_len e, Want.shift q g⟩
def TMeth (X : Cx) (ca : CaT) (G : Prg) (r : EV) (d : Nat) (m : Str) (ln : Nat) (C : Addr) (dn : Option (List Str)) (sp : Sp) (dvs : List V) : Prop :=
  ∃ d' c I k g fd ps D ds, d = d' + 1 ∧ (C = ca c ∧ dn = ca.dn c) ∧ G.cls.lookup c = some I ∧ I.meths.lookup m = some k ∧ sp = spC X.K ca (r.c d' k) ∧ Meth X.K C m g ∧ FnG X.prog X.w X.K X.mg X.base (L2.CX X.prog X.w) (d' + 1) g fd ps (spC X.K ca (r.c d' k)) ∧ G.defs[k]? = some D ∧ Binds X.K fd ps ds ∧ Vals dvs ds ∧ ∀ ia H, RVs X.K ia H (D.dfl.drop (ln + 1 + D.dfl.length - D.ps)) dvs
theorem d_mcl {ap cp : Pos} {ev : IE → LS → LH → Res Val} {is : List IE} (hC : ∀ c I, G.cls.lookup c = some I → ClsK X.K (ca c) (ca.dn c) I)
    (hM : ∀ d' c I k, d = d' + 1 → G.cls.lookup c = some I → I.meths.lookup m = some k → MethK X ca G r d' (ca c) m k)
    (hgd : X.A.guards = some []) (hr : Room d X.A) (hp : plainO o = true) (hl : (ap.endLine == cp.line) = true) (hst : ∀ y ∈ es, noStar y = true) (hn : es.length < 29) (tk : Takes X (wE E)) (ho : PE X o (tOf X.K ca (wE E) mo)) (ha : PA X es (tOfL X.K ca (wE E) (evL ev is))) (hei : es = [] → is = []) :
    PE X (.Call (.Attribute o m ap) es [] cp) (tOf X.K ca (wE E) (fun sl h => (mo sl h).bind fun v h1 => stMcl G r d v m h1 fun h1 => evL ev is sl h1)) := by
  have hx : Passes (L2.CX X.prog X.w) X E := passes_call tk fun _ _ _ _ z => z
  have hT : ∀ (C : Addr) (dn : Option (List Str)) (sp : Sp) (dvs : List V), TMeth X ca G r d m is.length C dn sp dvs →
      ClOk X.K C dn ∧ NoF dn m ∧ ∃ g fd ps ds, Meth X.K C m g ∧ FnG X.prog X.w X.K X.mg X.base (L2.CX X.prog X.w) d g fd ps sp ∧ Binds X.K fd ps ds ∧ Vals dvs ds := fun C dn sp dvs ⟨d', c, I, k, g, fd, ps, D, ds, hd, ⟨e1, e1'⟩, e2, e3, e4, h1, h2, h3, h4, h5, h6⟩ => by
    subst e1 e1' e4 hd
    exact ⟨(hC c I e2).sc, (hC c I e2).nof m k e3, g, fd, ps, ds, h1, h2, h4, h5⟩
  have key : ∀ st H Q, tOf X.K ca (wE E) (fun sl h => (mo sl h).bind fun v h1 => stMcl G r d v m h1 fun h1 => evL ev is sl h1) st H Q → tMethD (TMeth X ca G r d m is.length) E (tOf X.K ca (wE E) mo) (tOfL X.K ca (wE E) (evL ev is)) st H Q := fun st H Q t => by
    refine (tC.step (f := fun v sl h1 => stMcl G r d v m h1 fun h1 => evL ev is sl h1) t).mono fun y H1 ⟨v, t1⟩ => ?_
    obtain ⟨ia, sl, h, R, S, rr, q⟩ := t1
    cases rr with
    | cons ry _ =>
      dsimp only [stMcl] at q
      match d, q with
      | 0, q => exact (show False from q).elim
      | d' + 1, q =>
        cases em : mthO G v m h with
        | none => rw [em] at q; exact (show False from q).elim
        | some k =>
          rw [em] at q
          unfold mthO at em
          split at em
          · rename_i c fs ei
            split at em
            · rename_i I hI
              obtain ⟨j, a, dx, vs, hv, hy, hj, hh, hs, _, _, hf⟩ := ins_at R ry ei
              subst hv hy
              obtain ⟨g, fd, ps, D, h1, h2, h3, h4⟩ := hM d' c I k rfl hI em
              obtain ⟨ds, dvs, h5, h6, h7⟩ := h4 (is.length + 1 + D.dfl.length - D.ps)
              refine ⟨a, ca c, dx, vs, _, spC X.K ca (r.c d' k), dvs, rfl, hs, ⟨d', c, I, k, g, fd, ps, D, ds, rfl, ⟨rfl, rfl⟩, hI, em, rfl, h1, h2, h3, h5, h6, h7⟩, ?_⟩
              refine tCL.mono (args_step (fr := fun ws h2 => r.c d' k (fillV G k (.loc j :: ws)) h2) R S ry q) fun ys H2 ⟨ia2, h2', ws, R2, r1, r2, hlen, q2⟩ => ?_
              refine ⟨ia2, h2', fillV G k (.loc j :: ws), R2, ?_, q2⟩
              unfold fillV
              rw [h3]
              refine RVs.app (v := .loc j :: ws) (w := .ref a :: ys) (.cons r1 r2) ?_
              have : (Val.loc j :: ws).length = is.length + 1 := by simp [hlen]
              rw [this]
              exact h7 ia2 H2
            · cases em
          · cases em
  cases es with
  | nil =>
    cases hei rfl
    refine pe_imp (pe_methD0 (pl := L2.plainOf o X.env) ho hT hgd hr hx (mcl_eval hp hl hst hn)) fun st H Q t => ?_
    obtain ⟨ia, sl, h, R, S, rr, q⟩ := key st H Q t
    refine ⟨ia, sl, h, R, S, rr, q.mono fun x H1 z => ?_⟩
    obtain ⟨a, C, dx, vs, dn, sp, dvs, h1, h2, h3, h4⟩ := z
    refine ⟨a, C, dx, vs, dn, sp, dvs, h1, h2, h3, ?_⟩
    obtain ⟨ia2, sl2, h2', R2, S2, rr2, q2⟩ := h4
    exact WantL.now q2 R2 .nil
  | cons e es => exact pe_imp (pe_methD (pl := L2.plainOf o X.env) ho hT hgd hr hx ha (star_cons (hst e List.mem_cons_self)) (star_none fun y hy => hst y (List.mem_cons_of_mem _ hy)) (mcl_eval hp hl hst hn)) key
end
end Mi

set_option Elab.async false
set_option linter.all false
set_option maxRecDepth 100000
set_option maxHeartbeats 2000000
/-! C4: instances made, slots stored, errors raised, by their runs. -/
namespace Mi
open PySem L2 PyProof.Rows SlX
section
variable {X : Cx} {ca : CaT} {E : XK} {e o : Expr} {es : List Expr} {p pos : Pos} {ma mo : M Val} {G : Prg} {r : EV} {d : Nat} {f x : Str}
/-- what an __init__ is -/
def InitK (X : Cx) (ca : CaT) (G : Prg) (r : EV) (d : Nat) (C : Addr) (k : Nat) : Prop := ∃ f fd ps D, L2.Mk X.K C f ∧ FnG X.prog X.w X.K X.mg X.base (L2.CX X.prog X.w) (d + 1) f fd ps (spC X.K ca (r.c d k)) ∧ G.defs[k]? = some D ∧ DflK X.K fd ps D.dfl
theorem d_mk {ev : IE → LS → LH → Res Val} {is : List IE} {I : ClsI} (hI : G.cls.lookup x = some I) (hK : InitK X ca G r d (ca x) I.init) (hgd : X.A.guards = some []) (hr : Room (d + 2) X.A) (hg : Gl X x) (hm : X.mg x = some (.ref (ca x))) (hn : okN x = true)
    (hst : ∀ y ∈ es, noStar y = true) (tk : Takes X (wE E)) (ha : PA X es (tOfL X.K ca (wE E) (evL ev is))) (hei : es = [] → is = []) :
    PE X (.Call (.Name x p) es [] pos) (tOf X.K ca (wE E) (fun sl h => (evL ev is sl h).bind fun vs h1 => stMk G r d x vs h1)) := by
  have hx : Passes (L2.CX X.prog X.w) X E := passes_call tk fun _ _ _ _ z => z
  obtain ⟨f, fd, ps, D, M, F, hD, hdf⟩ := hK
  obtain ⟨ds, dvs, hb, hd, hrv⟩ := hdf (is.length + 1 + D.dfl.length - D.ps)
  have key : ∀ st H Q, tOf X.K ca (wE E) (fun sl h => (evL ev is sl h).bind fun vs h1 => stMk G r d x vs h1) st H Q → tMake (ca x) (spC X.K ca (r.c d I.init)) dvs E (tOfL X.K ca (wE E) (evL ev is)) st H Q := fun st H Q t => by
    obtain ⟨ia, sl, h, R, S, rr, q⟩ := t
    refine ⟨ia, sl, h, R, S, .nil, ?_⟩
    dsimp only at q
    cases ee : evL ev is sl h with
    | bad => rw [ee] at q; exact q
    | exc c w h1 => rw [ee] at q; exact q
    | ok vs h1 =>
      rw [ee] at q
      intro ka H1 ys g R1 r1
      have q1 : Want X.K ca (ia ++ ka) H1 (stMk G r d x vs h1) Q fun c d H' => wE E c d st H' := Want.shift q g
      unfold stMk at q1
      rw [hI] at q1
      intro a dx na ndx ne
      have hia := R1.fresh na
      have hid := R1.fresh ndx
      obtain ⟨R2, g2⟩ := R1.anyNew (u := .own a) ndx
      have na2 : upd H1 dx (.own a) a = none := by rw [upd_ne (Ne.symm ne)]; exact na
      have hdx : upd (upd H1 dx (.own a)) a (.ins (ca x) dx []) dx = some (.own a) := by rw [upd_ne ne]; exact upd_same
      have R3 := R2.push (o := .slt x []) (O := .ins (ca x) dx []) na2 ⟨dx, [], ist_new upd_same, fun z => by
        rcases List.mem_append.mp z with z | z
        · exact hid z
        · exact ne (by simpa using z), .inl hdx, fun i v z => by simp at z⟩
      have g3 : Grow (ia ++ ka) (upd H1 dx (.own a)) [a] (upd (upd H1 dx (.own a)) a (.ins (ca x) dx [])) := Grow.push na2
      have g4 : Grow (ia ++ ka) H1 ([] ++ [a]) (upd (upd H1 dx (.own a)) a (.ins (ca x) dx [])) := g2.trans (by rw [app_nil]; exact g3)
      rw [List.nil_append] at g4
      have hat : (ia ++ ka ++ [a])[h1.length]? = some a := by
        rw [← R1.len]
        simp
      refine ⟨ia ++ ka ++ [a], h1 ++ [.slt x []], fillV G I.init (.loc h1.length :: vs), R3, ?_, ?_⟩
      · unfold fillV
        rw [hD]
        refine RVs.app (v := .loc h1.length :: vs) (w := .ref a :: ys) (.cons (.loc hat) (r1.grow g4 R1)) ?_
        have : (Val.loc h1.length :: vs).length = is.length + 1 := by simp [evL_len ee]
        rw [this]
        exact hrv _ _
      · have q2 : Want X.K ca (ia ++ ka) H1 (mkB h1.length (r.c d I.init (fillV G I.init (.loc h1.length :: vs)) (h1 ++ [.slt x []]))) Q fun c d H' => wE E c d st H' := q1
        have q3 := Want.shift q2 g4
        cases e2 : r.c d I.init (fillV G I.init (.loc h1.length :: vs)) (h1 ++ [.slt x []]) with
        | bad => rw [e2] at q3; exact q3
        | exc c w h2 => rw [e2] at q3; exact q3
        | ok v h2 =>
          rw [e2] at q3
          cases v with
          | non =>
            intro la H' w g5 R5 r5
            cases r5
            refine ⟨rfl, q3 la H' (.ref a) g5 R5 (.loc ?_)⟩
            rw [List.getElem?_append_left (List.getElem?_eq_some_iff.mp hat).1]
            exact hat
          | _ => exact (show False from q3).elim
  cases es with
  | nil =>
    cases hei rfl
    refine pe_imp (pe_makeG0 M F hgd hr hg hm hb hd hx (okN_d hn).1) fun st H Q t => ?_
    obtain ⟨ia, sl, h, R, S, rr, q⟩ := key st H Q t
    exact WantL.now q R .nil
  | cons e es => exact pe_imp (pe_makeG M F hgd hr hg hm hb hd hx ha (okN_d hn).1 (star_cons (hst e List.mem_cons_self)) (star_none fun y hy => hst y (List.mem_cons_of_mem _ hy))) key
/-- a run, then what follows it in a statement -/
theorem stmt_step {K : PySem.W.Frag} {W : WS} {D : Ends} {st : L2.St} {vs : List Val} {xs : List V} {m : M Val} {f : Val → MS} {H : Hp} {ia : List Addr} {sl : LS} {h : LH} (R : Rep K ca ia H h) (S : RS K ia H sl st) (r : RVs K ia H vs xs) (w : WantS K ca ia H (ofR (m sl h) sl fun v h1 => f v sl h1) D W) :
    tOf K ca W m st H (fun x H1 => ∃ (ia : List Addr) (sl : LS) (h : LH) (v : Val), Rep K ca ia H1 h ∧ RS K ia H1 sl st ∧ RVs K ia H1 (v :: vs) (x :: xs) ∧ WantS K ca ia H1 (f v sl h) D W) := by
  refine ⟨ia, sl, h, R, S, .nil, ?_⟩
  cases e : m sl h with
  | bad => rw [e] at w; exact w
  | exc c v h' =>
    rw [e] at w
    exact fun ka H' d y g R' hd r' => w ka H' d y st g R' hd r' (S.grow g R)
  | ok v h1 =>
    rw [e] at w
    exact fun ka H1 x g R1 r1 => ⟨ia ++ ka, sl, h1, v, R1, S.grow g R, .cons r1 (r.grow g R), WantS.shift w g⟩
theorem putO_ok {K : PySem.W.Frag} {ia : List Addr} {H : Hp} {fs : List (Option Val)} {vs : List (Option V)} {i : Nat} {v : Val} {y : V} (h : ∀ (j : Nat) (u : Val), fs[j]? = some (some u) → ∃ w, vs[j]? = some (some w) ∧ RV K ia H u w) (r : RV K ia H v y) :
    ∀ (j : Nat) (u : Val), (putO i v fs)[j]? = some (some u) → ∃ w, (putS i y vs)[j]? = some (some w) ∧ RV K ia H u w := by
  intro j u e
  by_cases hj : j = i
  · subst hj
    unfold putO at e
    rw [List.getElem?_set_self (by simp only [List.length_append, List.length_replicate]; omega)] at e
    cases e
    exact ⟨y, putS_get j y vs, r⟩
  · unfold putO at e
    rw [List.getElem?_set_ne (Ne.symm hj)] at e
    have e2 : fs[j]? = some (some u) := by
      by_cases hl : j < fs.length
      · rw [List.getElem?_append_left hl] at e
        exact e
      · rw [List.getElem?_append_right (by omega), List.getElem?_replicate] at e
        split at e <;> cases e
    obtain ⟨w, e3, e4⟩ := h j u e2
    exact ⟨w, (putS_ne hj).mpr e3, e4⟩
/-- o.f = e -/
theorem sta_read {D : Ends} {st : L2.St} {H : Hp} {me : M Val} {W : WS} (hC : ∀ c I, G.cls.lookup c = some I → ClsK X.K (ca c) (ca.dn c) I) (h : tS X.K ca W (fun sl h => ofR (me sl h) sl fun v h1 => ofR (mo sl h1) sl fun ov h2 => match vSta G ov f v h2 with
    | some h3 => .nx sl h3
    | none => .bad) D st H) : sIs X.K (tOf X.K ca W mo) (tOf X.K ca W me) f D st H := by
  obtain ⟨ia, sl, h, R, S, q⟩ := h
  refine (stmt_step (f := fun v sl h1 => ofR (mo sl h1) sl fun ov h2 => match vSta G ov f v h2 with
    | some h3 => .nx sl h3
    | none => .bad) R S .nil q).mono fun y H1 ⟨ia, sl, h, v, R, S, r, q⟩ => ?_
  refine (stmt_step (f := fun ov sl h2 => match vSta G ov f v h2 with
    | some h3 => .nx sl h3
    | none => .bad) R S r q).mono fun z H2 ⟨ia, sl, h, ov, R, S, r, q⟩ => ?_
  cases r with
  | cons ro r =>
    cases r with
    | cons rv _ =>
      cases ev : vSta G ov f v h with
      | none => rw [ev] at q; exact (show False from q).elim
      | some h3 =>
        rw [ev] at q
        unfold vSta at ev
        split at ev
        · rename_i n c fs ei
          obtain ⟨j, a, dx, vs, hv, hy, hj, hh, hs, hdx, hu, hf⟩ := ins_at R ro ei
          cases hv
          subst hy
          split at ev
          · rename_i I hI
            obtain ⟨i, e1, e2⟩ := Option.map_eq_some_iff.mp ev
            subst e2
            have t := (hC c I hI).slot f i e1
            refine ⟨a, ca c, dx, vs, i, _, rfl, hs, (hC c I hI).sc, t, fun H' zz => ?_⟩
            have ham : a ∈ ia := List.mem_of_getElem? hj
            have ne : dx ≠ a := fun z => hdx (by rw [z]; exact ham)
            have hs' := ist_put (X := X) hs t ne zz
            obtain ⟨ua', ha', _⟩ := ist_some hs'
            obtain ⟨ua, hua, nfz⟩ := ist_some hs
            have hd' := istH_dx zz ne
            have ho : ∀ b, b ≠ a → b ≠ dx → H' b = H2 b := fun b h1 h2 => istH_ne zz h1 h2
            have g1 : Grow ia H2 [] H' := by
              refine ⟨fun b ob e nb no _ => ?_, fun b ob e => ?_, (fun _ z => nomatch z), fun b y' e nb => ?_, fun b o w e => ?_⟩
              · have h1 : b ≠ a := fun z => nb (by rw [z]; exact ham)
                by_cases h2 : b = dx
                · rw [h2] at e ⊢
                  rcases hd' with hd' | hd'
                  · rw [hd']; exact e
                  · rcases hu with hu | hu
                    · rw [hu] at e
                      exact absurd (Option.some.inj e).symm (no a)
                    · rw [hd', ← hu]
                      exact e
                · rw [ho b h1 h2]
                  exact e
              · by_cases h1 : b = a
                · rw [h1]; exact ⟨_, ha'⟩
                · by_cases h2 : b = dx
                  · rw [h2] at e ⊢
                    rcases hd' with hd' | hd'
                    · rw [hd']; exact ⟨_, e⟩
                    · exact ⟨_, hd'⟩
                  · rw [ho b h1 h2]; exact ⟨_, e⟩
              · have h1 : b ≠ a := fun z => nb (by rw [z]; exact ham)
                by_cases h2 : b = dx
                · rw [h2] at e ⊢
                  rcases hd' with hd' | hd'
                  · rw [hd']; exact .inl e
                  · exact .inr hd'
                · rw [ho b h1 h2]; exact .inl e
              · have h1 : b ≠ a := fun z => by rw [z, hua] at e; exact nfz _ _ (Option.some.inj e)
                have h2 : b ≠ dx := fun z => by
                  rw [z] at e
                  rcases hu with hu | hu
                  · rw [hu] at e; cases e
                  · rw [hu] at e; cases e
                rw [ho b h1 h2]; exact e
            have k1 := g1.hold R
            have stay : ∀ {v : Val} {w : V}, RV X.K ia H2 v w → RV X.K ia H' v w := fun {v w} z => by
              have q := z.stay k1
              rw [app_nil] at q
              exact q
            have R2 : Rep X.K ca ia H' (h.set n (.slt c (putO i v fs))) := by
              refine ⟨by simp [R.len], R.nd, fun l ob b e1 e2 => ?_, fun q hq => by
                have z := (R.tab q hq).stay k1 fun P ps e => by
                  have nt1 : P ≠ a := fun z => by
                    obtain ⟨_, r⟩ := R.mem ham
                    obtain ⟨u, e2, _, _, _, _, nt⟩ := r.kind
                    rw [z, e2] at e
                    exact nt ps (Option.some.inj e)
                  have nt2 : P ≠ dx := fun z => by
                    rcases hu with hu | hu
                    · rw [z, hu] at e
                      cases e
                    · rw [z, hu] at e
                      cases e
                  rw [ho P nt1 nt2]
                  exact e
                rw [app_nil] at z
                exact z⟩
              by_cases hl : l = n
              · subst hl
                rw [hj] at e2
                cases e2
                rw [List.getElem?_set_self (List.getElem?_eq_some_iff.mp hh).1] at e1
                cases e1
                exact ⟨dx, putS i y vs, hs', hdx, hd'.elim (fun z => by rw [z]; exact hu) .inr, putO_ok (fun l u e => let ⟨w, z1, z2⟩ := hf l u e; ⟨w, z1, stay z2⟩) (stay rv)⟩
              · rw [List.getElem?_set_ne (Ne.symm hl)] at e1
                have nb : b ≠ a := fun z => by
                  subst z
                  obtain ⟨h1, e3⟩ := List.getElem?_eq_some_iff.mp e2
                  obtain ⟨h2, e4⟩ := List.getElem?_eq_some_iff.mp hj
                  exact hl ((List.getElem_inj R.nd).mp (e3.trans e4.symm))
                have nb2 : b ≠ dx := fun z => hdx (by rw [← z]; exact List.mem_of_getElem? e2)
                have q := (R.ob l ob b e1 e2).stay k1 (ho b nb nb2)
                rw [app_nil] at q
                exact q
            have S2 := S.grow g1 R
            exact q [] H' st g1 (by rw [app_nil]; exact R2) S2
          · cases ev
        · cases ev
end
end Mi

set_option Elab.async false
set_option linter.all false
set_option maxRecDepth 100000
set_option maxHeartbeats 2000000
/-! C5: an own error raised, by its run. -/
namespace Mi
open PySem L2 PyProof.Rows
section
variable {X : Cx} {ca : CaT} {E : XK} {e : Expr} {p pos rp : Pos} {ma : M Val} {x : Str}
theorem d_rse {errs : List Str} (hca : errs.contains x = true → ca x = He.ga X.K x) (T : errs.contains x = true → ErrK X.prog X.K (He.ga X.K x)) (hx : errs.contains x = true) (hc : X.calm = true) (hr : Room 0 X.A) (hg : Gl X x) (hm : X.mg x = some (.ref (He.ga X.K x))) (hst : noStar e = true) (hn : okN x = true) (tk : Takes X (wE E)) (he : PE X e (tOf X.K ca (wE E) ma)) :
    PS X (.Raise (some (.Call (.Name x p) [e] [] pos)) none rp) (tS X.K ca (wE E) (fun sl h => ofR (ma sl h) sl fun v h1 => match errs.contains x with
      | true => .exc x v sl h1
      | false => .bad)) := by
  have T := T hx
  obtain ⟨fI, D0, TE⟩ := T.made
  refine ps_imp (ps_raise hc tk (pmk_err T (raises_own TE.oex.exC TE.oex.tyC) hr hg hm he hst hn)) fun D st H t => ?_
  obtain ⟨ia, sl, h, R, S, q⟩ := t
  refine (stmt_step (f := fun v sl h1 => match errs.contains x with
      | true => .exc x v sl h1
      | false => .bad) R S .nil q).mono fun y H1 ⟨ia, sl, h, v, R, S, r, q⟩ => ?_
  rw [hx] at q
  intro d H2 nd hb hd
  have e2 : H2 = upd H1 d (.xd [("value", y)]) := by
    funext b
    by_cases h1 : b = d
    · rw [h1, hd, upd_same]
    · rw [upd_ne h1]
      cases e : H1 b with
      | none => exact (hb b h1).2 e
      | some o => exact (hb b h1).1 o e
  subst e2
  cases r with
  | cons rv _ =>
    obtain ⟨R2, g2⟩ := R.anyNew (u := .xd [("value", y)]) nd
    have z := q [] _ d y st g2 (by rw [app_nil]; exact R2) upd_same (rv.grow g2 R) (S.grow g2 R)
    rw [hca hx] at z
    exact z
end
end Mi

set_option Elab.async false
set_option linter.all false
set_option maxRecDepth 100000
set_option maxHeartbeats 2000000
/-! C6: operators on instances, by the machine. -/
namespace Mi
open PySem PySem.W PySem.Calls PyProof.Rows
section
variable {prog : Program} {w : World} {A : Around} {E : Value → Shared → Prop} {s : Shared} {K : Frag} {x C L f : Addr} {h₀ : Heap} {m : Str → Option Value} {ox : Obj} {od : Option Obj}
/-- int's own entry declines an instance -/
theorem int_declines {nm : String} {fn : Int → Int → Sem Fin} {i : Int} {t : Tok} {rf : Bool} {Q : Fin → Shared → Prop} (ho : s.heap.get? x = some ox) (hd : ∀ j u, ox.data ≠ .prim (.int j u)) (q : Q (.done (.ret .notImplemented)) s) :
    wpAny (model prog w) A (PySem.Builtin.Int.intBinary nm fn rf ⟨[.int i t, .ref x], []⟩) Q E s := by
  unfold PySem.Builtin.Int.intBinary
  have e : asInt? (.ref x) = (do
    match (← load x).data with
    | .prim (.int i _) => pure (some i)
    | _ => pure none) := rfl
  show wpAny _ _ (do
    let y ← asInt? (.ref x)
    match y with
    | some y => if rf = true then fn y i else fn i y
    | _ => do rule "int.binary.not-an-int"; ret .notImplemented) _ _ _
  rw [e]
  refine wpAny_bind (wpAny_bind (wpAny_load ho ?_))
  split
  · rename_i j u hj
    exact absurd hj (hd j u)
  · refine wpAny_pure ?_
    exact wpAny_bind (wpAny_rule (wpAny_pure q))
/-- int + instance: the instance's reflected method -/
theorem bin_refl {op : Operator} {i : Int} {t : Tok} {rcv : Value} {id name : String} {fn : Int → Int → Sem Fin} {Q : Value → Shared → Prop} (F : Fr h₀ L s.heap m) (X₀ : K.In h₀) (I : InstAt s.heap x ox C od) (hd : ∀ j u, ox.data ≠ .prim (.int j u)) (hc : selfFirst K C = true)
    (fi : fillsNumberSlot (.type "int") op.info.2 = pure true) (sl : Slot "int" (PySem.dunder op.info.2) id) (en : entryFor table id = some (PySem.Builtin.Int.intBinary name fn)) (ag : argsOk id ⟨[.int i t, .ref x], []⟩)
    (hs : findIn K (.ref C) (PySem.dunder op.info.2) = some (some rcv)) (hsv : ∃ g : Addr, rcv = .ref g) (hr : findIn K (.ref C) (dunderR op.info.2) = some (some (.ref f))) (hf : isFn K (.ref f) = true) (hsub : subIn K (.ref C) (.type "int") = some false)
    (h : wpAny (model prog w) A (call (.ref f) [.ref x, .int i t]) (PySem.W.CmpBack Q) E s) : wpAny (model prog w) A (binaryOp op (.int i t) (.ref x)) Q E s := by
  have X := X₀.keeps F.keep
  obtain ⟨cd, rest, hcd, hm⟩ := ksp_first hc
  obtain ⟨g, rfl⟩ := hsv
  rcases hi : op.info with ⟨sym, nm'⟩
  rw [hi] at hs hr fi sl
  dsimp only at hs hr fi sl
  have one := ksp_try X I hr hf h
  have L1 : Looks (model prog w) s.heap (typeOf (.ref x)) (.ref C) := I.type
  have L3 : Looks (model prog w) s.heap (fillsNumberSlot (.ref C) nm') true := fills_K X hcd hm hs
  have L5 : Looks (model prog w) s.heap (isSubtype (.ref C) (.type "int")) false := looks_subIn X hsub
  have hne : (Value.type "int" == Value.ref C) = false := Bool.eq_false_iff.mpr fun q => by cases beq_iff_eq.mp q
  have ti : typeOf (.int i t) = pure (.type "int") := rfl
  have ni : numberSlotInPython (.type "int") nm' = pure false := rfl
  simp only [binaryOp, hi]
  refine wpAny_holding (wpAny_bind ?_)
  unfold binaryOp1
  refine wpAny_bind (wpAny_of_eq ti (wpAny_bind (L1.at (wpAny_bind (wpAny_of_eq fi ?_)))))
  simp only [hne, Bool.false_eq_true, if_false]
  refine wpAny_bind (L3.at ?_)
  simp only [Bool.and_self, if_true]
  refine wpAny_bind (L5.at ?_)
  simp only [Bool.false_eq_true, if_false, Bool.not_false, Bool.and_self, if_true, Bool.and_true]
  refine wpAny_bind (wpAny_of_eq ni ?_)
  simp only [Bool.false_eq_true, if_false]
  refine wpAny_bind (wpAny_tryMethod_declines (typeIs_int s i t) sl (wpAny_call_entry sl (typeIs_int s i t) en (int_declines I.at_ hd ⟨_, rfl, rfl, ?_⟩) ag))
  simp only [if_false, Bool.false_eq_true]
  refine wpAny_bind (wpAny_mono one (fun r s' hr' => ?_) fun _ _ e => e)
  obtain ⟨v, rfl, hq⟩ := hr'
  exact wpAny_bind (wpAny_rule (wpAny_pure (wpAny_pure hq)))
/-! ### comparisons -/
theorem try_cmp {Q : Value → Shared → Prop} {name : Str} {b : Value} (X : K.In s.heap) (I : InstAt s.heap x ox C od) (hs : findIn K (.ref C) name = some (some (.ref f))) (hf : isFn K (.ref f) = true)
    (h : wpAny (model prog w) A (call (.ref f) [.ref x, b]) (PySem.W.CmpBack Q) E s) : wpAny (model prog w) A (tryCompare (.ref x) name b) (fun r s' => ∃ v, r = some v ∧ Q v s') E s := by
  unfold tryCompare
  refine wpAny_bind (ifBound_K X I hs hf (wpAny_mono h (fun v s' hv => ?_) fun _ _ e => e))
  cases v <;> first | exact hv.elim | exact wpAny_pure ⟨_, rfl, hv⟩
/-- int < instance: the instance's method of the other way about -/
theorem cmp_refl {op : CmpOp} {i : Int} {t : Tok} {id name : String} {fn : Int → Int → Sem Fin} {Q : Value → Shared → Prop} (hu : A.units < cLine) (F : Fr h₀ L s.heap m) (X₀ : K.In h₀) (I : InstAt s.heap x ox C od) (hd : ∀ j u, ox.data ≠ .prim (.int j u))
    (sl : Slot "int" (cmpInfo op).2.1 id) (en : entryFor table id = some (PySem.Builtin.Int.intBinary name fn)) (ag : argsOk id ⟨[.int i t, .ref x], []⟩) (h1 : oneThing? op (.int i t) (.ref x) = none)
    (hr : findIn K (.ref C) (cmpInfo op).2.2 = some (some (.ref f))) (hf : isFn K (.ref f) = true) (hsub : subIn K (.ref C) (.type "int") = some false)
    (h : wpAny (model prog w) A (call (.ref f) [.ref x, .int i t]) (PySem.W.CmpBack Q) E s) : wpAny (model prog w) A (richCompare op (.int i t) (.ref x)) Q E s := by
  have X := X₀.keeps F.keep
  have one := try_cmp X I hr hf h
  have ti : typeOf (.int i t) = pure (.type "int") := rfl
  have hne : (Value.type "int" != Value.ref C) = true := by
    have e : (Value.type "int" == Value.ref C) = false := Bool.eq_false_iff.mpr fun q => by cases beq_iff_eq.mp q
    show (!(Value.type "int" == Value.ref C)) = true
    rw [e]
    rfl
  unfold richCompare
  simp only [h1]
  refine wpAny_holding (wpAny_bind (wpAny_cRoomFor hu ?_))
  refine wpAny_bind (wpAny_of_eq ti (wpAny_bind (I.type.here ?_)))
  simp only [hne, if_true]
  refine wpAny_bind ((looks_subIn X hsub).here ?_)
  simp only [Bool.false_eq_true, if_false]
  refine wpAny_bind ?_
  show wpAny (model prog w) A (tryCompare (.int i t) (cmpInfo op).2.1 (.ref x)) _ _ _
  unfold tryCompare
  refine wpAny_bind (wpAny_callSpecialIfBound?_slot (typeIs_int s i t) sl (wpAny_call_entry sl (typeIs_int s i t) en (int_declines I.at_ hd ⟨_, rfl, ?_⟩) ag))
  refine wpAny_pure ?_
  simp only [Bool.not_false, if_true]
  refine wpAny_bind (wpAny_mono one (fun r s' z => ?_) fun _ _ e => e)
  obtain ⟨v, rfl, hq⟩ := z
  exact wpAny_pure hq
end
end Mi

set_option Elab.async false
set_option linter.all false
set_option maxRecDepth 100000
set_option maxHeartbeats 2000000
/-! CD: x != y of instances, by their own __eq__. -/
namespace Mi
open PySem PySem.W PySem.Calls PyProof.Rows
section
variable {prog : Program} {w : World} {A : Around} {E : Value → Shared → Prop} {s : Shared} {K : Frag} {x y C L f : Addr} {h₀ : Heap} {m : Str → Option Value} {ox : Obj} {od : Option Obj}
/-- object's own !=, at work -/
theorem ne_entry {Q : Fin → Shared → Prop} (hu : A.units < cLine) (X : K.In s.heap) (I : InstAt s.heap x ox C od) (he : findIn K (.ref C) "__eq__" = some (some (.ref f))) (hf : isFn K (.ref f) = true)
    (h : wpAny (model prog w) A (call (.ref f) [.ref x, .ref y]) (fun v s' => ∃ b, v = .bool b ∧ Q (.done (.ret (.bool (!b)))) s') E s) : wpAny (model prog w) A (Builtin.«object.__ne__» ⟨[.ref x, .ref y], []⟩) Q E s := by
  unfold Builtin.«object.__ne__»
  repeat (first
    | with_reducible refine wpAny_cRoomFor hu ?_
    | (refine wpAny_bind (m := callSpecialIfBound? (.ref x) (Str.ofString "__eq__") [.ref y]) (ifBound_K X I he hf (wpAny_mono h (fun r s' hr => by
          obtain ⟨b, rfl, hq⟩ := hr
          repeat (first | exact hq | exact wpAny_pure hq | exact wpAny_truthy_bool hq | (refine wpAny_bind (m := truthy (.bool _)) (wpAny_truthy_bool ?_)) | wp_step)) fun _ _ z => z)))
    | wp_step)
theorem ne_bound {args : List Value} {Q : Option Value → Shared → Prop} (X : K.In s.heap) (I : InstAt s.heap x ox C od) (hs : findIn K (.ref C) "__ne__" = some (some (.builtin "object.__ne__")))
    (h : wpAny (model prog w) A (call (.builtin "object.__ne__") (.ref x :: args)) (fun v => Q (some v)) E s) : wpAny (model prog w) A (callSpecialIfBound? (.ref x) "__ne__" args) Q E s := by
  have fin : wpAny (model prog w) A (call (.builtin "object.__ne__") ([.ref x] ++ args) >>= fun v => pure (some v)) Q E s := wpAny_bind (wpAny_mono h (fun _ _ z => wpAny_pure z) fun _ _ z => z)
  simp only [callSpecialIfBound?, bindSpecialIfBound?]
  refine wpAny_holding (wpAny_bind (wpAny_bind (wpAny_bind (I.type.here ((looks_findIn X hs).here (wpAny_bind (wpAny_askSetting (wpAny_ite ?_))))))))
  split
  · exact wpAny_bind (wpAny_of_eq (PySem.F.cmp_object.ne.bind _) (wpAny_pure (by exact fin)))
  · exact wpAny_tryCatch (wpAny_bind (wpAny_of_eq (PySem.F.cmp_object.ne.bind _) (wpAny_pure (by exact fin))))
/-- x != y, both of one class that has an __eq__ but no __ne__ -/
theorem ne_K {Q : Value → Shared → Prop} {oy : Obj} {oe : Option Obj} (hu : A.units + 1 < cLine) (F : Fr h₀ L s.heap m) (X₀ : K.In h₀) (I : InstAt s.heap x ox C od) (J : InstAt s.heap y oy C oe) (hm : mroIn K C (.type "object") = some true) (hs : findIn K (.ref C) "__ne__" = some (some (.builtin "object.__ne__")))
    (he : findIn K (.ref C) "__eq__" = some (some (.ref f))) (hf : isFn K (.ref f) = true)
    (h : wpAny (model prog w) A.in1 (call (.ref f) [.ref x, .ref y]) (fun v s' => ∃ b, v = .bool b ∧ Q (.bool (!b)) s') E s) : wpAny (model prog w) A (compareOp .NotEq (.ref x) (.ref y)) Q E s := by
  have X := X₀.keeps F.keep
  have one : wpAny (model prog w) A (tryCompare (.ref x) "__ne__" (.ref y)) (fun r s' => ∃ b, r = some (.bool b) ∧ Q (.bool b) s') E s := by
    unfold tryCompare
    refine wpAny_bind (ne_bound X I hs (wpAny_call (codeAny_call_builtin PySem.F.cmp_object.ne.plain PySem.F.cmpEntry_ne (check_slot PySem.F.cmpKind_ne PySem.F.cmpSplit_ne (I.type.andThen (looks_mroIn X hm)) (PySem.F.cmpArgs_ne _ _) ?_))))
    refine ne_entry (A := A.in1) hu X I he hf (wpAny_mono h (fun v s' z => ?_) fun _ _ z => z)
    obtain ⟨b, rfl, q⟩ := z
    exact ⟨b, rfl, wpAny_pure ⟨_, rfl, q⟩⟩
  show wpAny _ _ (richCompare .NotEq (.ref x) (.ref y)) _ _ _
  unfold richCompare
  simp only [oneThing_ref]
  refine wpAny_holding (wpAny_bind (wpAny_cRoomFor (Nat.lt_of_succ_lt hu) ?_))
  rw [cmpInfo_NotEq]
  dsimp only
  refine wpAny_bind (I.type.here (wpAny_bind (J.type.here ?_)))
  rw [show (Value.ref C != Value.ref C) = false from by simp]
  simp only [Bool.false_eq_true, if_false]
  refine wpAny_bind (wpAny_pure ?_)
  simp only [Bool.false_eq_true, if_false]
  refine wpAny_bind (wpAny_mono one (fun v s' z => ?_) fun _ _ z => z)
  obtain ⟨b, rfl, q⟩ := z
  exact wpAny_pure q
end
end Mi

set_option Elab.async false
set_option linter.all false
set_option maxRecDepth 100000
set_option maxHeartbeats 4000000
/-! C7: operators on instances, by their runs. -/
namespace Mi
open PySem L2 PyProof.Rows SlX
/-- what the written part says of a class beside int -/
structure OpsK (K : PySem.W.Frag) (C : Addr) : Prop where
  ob : PySem.W.mroIn K C (.type "object") = some true
  ne : PySem.W.findIn K (.ref C) "__ne__" = some (some (.builtin "object.__ne__"))
  sf : PySem.W.selfFirst K C = true
  ci : PySem.W.subIn K (.ref C) (.type "int") = some false
  ic : PySem.W.subIn K (.type "int") (.ref C) = some false
  i1 : ∀ nm, nm = "add" ∨ nm = "sub" ∨ nm = "mul" → ∃ fo ro, PySem.W.findIn K (.type "int") (PySem.dunder nm) = some fo ∧ PySem.W.findIn K (.type "int") (dunderR nm) = some ro
/-- what the runs of a level know of the classes -/
structure LvK (X : Cx) (ca : CaT) (G : Prg) (r : EV) (d : Nat) : Prop where
  cls : ∀ c I, G.cls.lookup c = some I → ClsK X.K (ca c) (ca.dn c) I
  ops : ∀ c I, G.cls.lookup c = some I → OpsK X.K (ca c)
  mth : ∀ d' c I m k, d = d' + 1 → G.cls.lookup c = some I → I.meths.lookup m = some k → ∃ g fd ps D, Meth X.K (ca c) m g ∧ FnG X.prog X.w X.K X.mg X.base (L2.CX X.prog X.w) (d' + 1) g fd ps (spC X.K ca (r.c d' k)) ∧ G.defs[k]? = some D ∧ DflK X.K fd ps D.dfl
  mt2 : ∀ d' c I m k, d = d' + 2 → G.cls.lookup c = some I → I.meths.lookup m = some k → ∃ g fd ps D, Meth X.K (ca c) m g ∧ FnG X.prog X.w X.K X.mg X.base (L2.CX X.prog X.w) (d' + 1) g fd ps (spC X.K ca (r.c d' k)) ∧ G.defs[k]? = some D ∧ DflK X.K fd ps D.dfl
  mat : ∀ c I m k, G.cls.lookup c = some I → I.meths.lookup m = some k → ∃ g, Meth X.K (ca c) m g
section
variable {X : Cx} {ca : CaT} {E : XK} {G : Prg} {r : EV} {d : Nat}
/-- the method of an instance, looked up -/
theorem mth_at {K : PySem.W.Frag} {ia : List Addr} {H : Hp} {h : LH} {v : Val} {y : V} {m : Str} {k : Nat} (R : Rep K ca ia H h) (ry : RV K ia H v y) (e : mthO G v m h = some k) :
    ∃ c I n fs a dx vs, G.cls.lookup c = some I ∧ I.meths.lookup m = some k ∧ v = .loc n ∧ y = .ref a ∧ insO v h = some (c, fs) ∧ Ist (ca.dn c) H a (ca c) dx vs := by
  unfold mthO at e
  split at e
  · rename_i c fs ei
    split at e
    · rename_i I hI
      obtain ⟨n, a, dx, vs, h1, h2, h3, h4, h5, _⟩ := ins_at R ry ei
      exact ⟨c, I, n, fs, a, dx, vs, hI, e, h1, h2, ei, h5⟩
    · cases e
  · cases e
def rV2O (K : PySem.W.Frag) (ca : CaT) (E : XK) (f : Val → Val → LH → Res Val) : R2 := fun x y H Q => ∃ (ia : List Addr) (h : LH) (v w : Val), Rep K ca ia H h ∧ RV K ia H v x ∧ RV K ia H w y ∧ Want K ca ia H (f v w h) Q E
/-- a call of a method of two -/
theorem call2 {pins : List (Addr × Obj)} {s : Shared} {st : L2.St} {H : Hp} {Q : VK} {g : Addr} {fd : FuncData} {ps : List Str} {D : DefI} {k d' : Nat} {x y : V} {u v : Value} {a b : Val} {ia : List Addr} {h : LH} (hx : Passes (L2.CX X.prog X.w) X E) (hgd : X.A.guards = some []) (hr : Room (d' + 1) X.A)
    (F : FnG X.prog X.w X.K X.mg X.base (L2.CX X.prog X.w) (d' + 1) g fd ps (spC X.K ca (r.c d' k))) (hdf : DflK X.K fd ps D.dfl) (I : Inv X pins st H s) (rx : RelV x u) (ry : RelV y v) (R : Rep X.K ca ia H h) (r1 : RV X.K ia H a x) (r2 : RV X.K ia H b y) (q : Want X.K ca ia H (r.c d' k [a, b] h) Q E) :
    wpAny (model X.prog X.w) X.A (call (.ref g) [u, v]) (PySem.W.CmpBack (EP X pins st Q)) X.xe s := by
  obtain ⟨ds, dvs, hb, hd, hv⟩ := hdf D.dfl.length
  have hv0 : dvs = [] := by
    have := (hv [] (fun _ => none)).len
    rw [List.drop_length] at this
    exact List.length_eq_zero_iff.mp this.symm
  subst hv0
  refine wpAny_mono (run_fnGd (us := [u, v]) (vs := [x, y]) F hgd hr hb hd hx I (.cons rx (.cons ry .nil)) (by rw [List.append_nil]; exact ⟨ia, h, [a, b], R, .cons r1 (.cons r2 .nil), q⟩)) (fun w s' z => ?_) fun _ _ z => z
  obtain ⟨z', H', I', rz, qz⟩ := z
  exact cmpback rz ⟨z', H', I', rz, qz⟩
/-- what is needed of an operator that classes define -/
structure OpF (op : Operator) (f g : Str) : Prop where
  f : PySem.dunder op.info.2 = f
  g : dunderR op.info.2 = g
  nm : op.info.2 = "add" ∨ op.info.2 = "sub" ∨ op.info.2 = "mul"
  int : ∃ id name fn, fillsNumberSlot (.type "int") op.info.2 = pure true ∧ Slot "int" (PySem.dunder op.info.2) id ∧ entryFor table id = some (PySem.Builtin.Int.intBinary name fn) ∧ ∀ a b, argsOk id ⟨[a, b], []⟩
theorem opF {op : Operator} {f g : Str} (h : dunB op = some (f, g)) : OpF op f g := by
  cases op with
  | Add => cases h; exact ⟨by decide +kernel, by decide +kernel, .inl rfl, _, _, _, F.fills_int_add, F.slot_int_add, F.entry_int_add, F.args_int_add_2⟩
  | Sub => cases h; exact ⟨by decide +kernel, by decide +kernel, .inr (.inl rfl), _, _, _, F.fills_int_sub, F.slot_int_sub, F.entry_int_sub, F.args_int_sub_2⟩
  | Mult => cases h; exact ⟨by decide +kernel, by decide +kernel, .inr (.inr rfl), _, _, _, F.fills_int_mul, F.slot_int_mul, F.entry_int_mul, F.args_int_mul_2⟩
  | _ => cases h
theorem isI_int {K : PySem.W.Frag} {ia : List Addr} {H : Hp} {w : Val} {y : V} {u : Value} (h : isI w = true) (r : RV K ia H w y) (ru : RelV y u) : ∃ j t, w = .int j ∧ y = .int j ∧ u = .int j t := by
  cases w with
  | int j =>
    cases r
    obtain ⟨t, e⟩ := (show ∃ t, u = Value.int j t from ru)
    exact ⟨j, t, rfl, rfl, e⟩
  | _ => cases h
theorem same_at {K : PySem.W.Frag} {ia : List Addr} {H : Hp} {h : LH} {v w : Val} {y : V} {c : Str} {fs : List (Option Val)} (R : Rep K ca ia H h) (ev : insO v h = some (c, fs)) (e : sameC v w h = true) (r : RV K ia H w y) : ∃ b dx vs, y = .ref b ∧ Ist (ca.dn c) H b (ca c) dx vs := by
  unfold sameC at e
  rw [ev] at e
  split at e
  · rename_i c1 fs1 c2 fs2 h1 h2
    cases h1
    have hc := of_decide_eq_true e
    subst hc
    obtain ⟨n, a, dx, vs, _, h2', _, _, h5, _⟩ := ins_at R r h2
    exact ⟨a, dx, vs, h2', h5⟩
  · cases e
theorem opvO {op : Operator} (L : LvK X ca G r d) (hx : Passes (L2.CX X.prog X.w) X E) (hgd : X.A.guards = some []) (hr : Room d X.A) : OpR X (binaryOp op) (rV2O X.K ca E (fun v w h => stOwn r d (ownO G (dunB op) v w h) (vBin op v w h) h)) := by
  intro pins s st H x y u u' Q I rx ry ⟨ia, h, v, w, R, r1, r2, q⟩
  dsimp only at q
  cases eo : ownO G (dunB op) v w h with
  | none => rw [eo] at q; exact opv (ca := ca) op pins s st H x y u u' Q I rx ry ⟨ia, h, v, w, E, R, r1, r2, q⟩
  | some p =>
    obtain ⟨k, args⟩ := p
    rw [eo] at q
    match d, L, hr, q with
    | 0, _, _, q => exact (show False from q).elim
    | d' + 1, L, hr, q =>
      have q : Want X.K ca ia H (r.c d' k args h) Q E := q
      obtain ⟨mm, hF⟩ := I.fr
      unfold ownO at eo
      split at eo
      · rename_i f g hfg
        have O := opF hfg
        split at eo
        · rename_i k0 k1 hk0 hk1 hb
          cases eo
          obtain ⟨c, Ic, n, fs, a, dx, vs, hI, hm, hv, hy, hins, hs⟩ := mth_at R r1 hk0
          obtain ⟨c', Ic', n', fs', a', dx', vs', hI', hm', hv', hy', hins', hs'⟩ := mth_at R r1 hk1
          rw [hins] at hins'
          cases hins'
          rw [hI] at hI'
          cases hI'
          obtain ⟨g1, fd, ps, D, M1, F1, hD, hdf⟩ := L.mth d' c Ic f _ rfl hI hm
          obtain ⟨g2, M2⟩ := L.mat c Ic g k1 hI hm'
          have C := L.ops c Ic hI
          subst hy
          obtain rfl : u = Value.ref a := rx
          obtain ⟨ox, od, nda, J, _⟩ := ist_inst I hs
          rcases Bool.or_eq_true_iff.mp hb with hb | hb
          · obtain ⟨j, t, e1, e2, e3⟩ := isI_int hb r2 ry
            subst e1 e2 e3
            obtain ⟨fo, ro, h1, h2⟩ := C.i1 _ O.nm
            exact PySem.W.ksp_binT (T := "int") hF I.ok.mod.kin J rfl C.sf (by rw [O.f]; exact M1.at_) M1.fn (by rw [O.g]; exact M2.at_) (.inr ⟨g2, rfl⟩) h1 h2 C.ic (call2 (x := .ref a) hx hgd hr F1 hdf I rfl ry R r1 r2 q)
          · obtain ⟨b, dy, ws, e1, hs2⟩ := same_at R hins hb r2
            subst e1
            obtain rfl : u' = Value.ref b := ry
            obtain ⟨ox2, od2, _, J2, _⟩ := ist_inst I hs2
            exact PySem.W.binop_K hF I.ok.mod.kin J J2.type C.sf (by rw [O.f]; exact M1.at_) M1.fn (call2 (x := .ref a) (y := .ref b) hx hgd hr F1 hdf I rfl rfl R r1 r2 q)
        · split at eo
          · rename_i k0 k1 hb hk0 hk1
            cases eo
            obtain ⟨c, Ic, n, fs, a, dx, vs, hI, hm, hv, hy, hins, hs⟩ := mth_at R r2 hk1
            obtain ⟨c', Ic', n', fs', a', dx', vs', hI', hm', hv', hy', hins', hs'⟩ := mth_at R r2 hk0
            rw [hins] at hins'
            cases hins'
            rw [hI] at hI'
            cases hI'
            obtain ⟨g1, fd, ps, D, M1, F1, hD, hdf⟩ := L.mth d' c Ic g _ rfl hI hm
            obtain ⟨g2, M2⟩ := L.mat c Ic f k0 hI hm'
            have C := L.ops c Ic hI
            subst hy
            obtain rfl : u' = Value.ref a := ry
            obtain ⟨ox, od, nda, J, _⟩ := ist_inst I hs
            obtain ⟨j, t, e1, e2, e3⟩ := isI_int hb r1 rx
            subst e1 e2 e3
            obtain ⟨id, name, fn, f1, f2, f3, f4⟩ := O.int
            exact bin_refl hF I.ok.mod.kin J nda C.sf f1 f2 f3 (f4 _ _) (by rw [O.f]; exact M2.at_) ⟨g2, rfl⟩ (by rw [O.g]; exact M1.at_) M1.fn C.ci (call2 (x := .ref a) hx hgd hr F1 hdf I rfl rx R r2 r1 q)
          · cases eo
      · cases eo
end
end Mi

set_option Elab.async false
set_option linter.all false
set_option maxRecDepth 100000
set_option maxHeartbeats 4000000
/-! C8: comparisons of instances, -x, by their runs. -/
namespace Mi
open PySem L2 PyProof.Rows SlX
structure CmpF (op : CmpOp) (f g : Str) : Prop where
  hop : ∀ a b, compareOp op a b = richCompare op a b
  f : (cmpInfo op).2.1 = f
  g : (cmpInfo op).2.2 = g
  one : ∀ i t x, oneThing? op (.int i t) (.ref x) = none
  int : ∃ id name fn, Slot "int" (cmpInfo op).2.1 id ∧ entryFor table id = some (PySem.Builtin.Int.intBinary name fn) ∧ ∀ a b, argsOk id ⟨[a, b], []⟩
theorem cmpF {op : CmpOp} {f g : Str} (h : dunC op = some (f, g)) : CmpF op f g := by
  cases op with
  | Lt => cases h; exact ⟨fun _ _ => rfl, rfl, rfl, fun _ _ _ => rfl, _, _, _, F.slot_int_lt, F.entry_int_lt, F.args_int_lt_2⟩
  | LtE => cases h; exact ⟨fun _ _ => rfl, rfl, rfl, fun _ _ _ => rfl, _, _, _, F.slot_int_le, F.entry_int_le, F.args_int_le_2⟩
  | Gt => cases h; exact ⟨fun _ _ => rfl, rfl, rfl, fun _ _ _ => rfl, _, _, _, F.slot_int_gt, F.entry_int_gt, F.args_int_gt_2⟩
  | GtE => cases h; exact ⟨fun _ _ => rfl, rfl, rfl, fun _ _ _ => rfl, _, _, _, F.slot_int_ge, F.entry_int_ge, F.args_int_ge_2⟩
  | Eq => cases h; exact ⟨fun _ _ => rfl, rfl, rfl, fun _ _ _ => rfl, _, _, _, F.slot_int_eq, F.entry_int_eq, F.args_int_eq_2⟩
  | _ => cases h
section
variable {X : Cx} {ca : CaT} {E : XK} {G : Prg} {r : EV} {d : Nat}
theorem cpvO {op : CmpOp} (hu : X.A.units + 65 < cLine) (L : LvK X ca G r d) (hx : Passes (L2.CX X.prog X.w) X E) (hgd : X.A.guards = some []) (hr : Room d X.A) : OpR X (compareOp op) (rV2O X.K ca E (fun v w h => stOwn r d (ownO G (dunC op) v w h) (vCmp op v w h) h)) := by
  intro pins s st H x y u u' Q I rx ry ⟨ia, h, v, w, R, r1, r2, q⟩
  dsimp only at q
  cases eo : ownO G (dunC op) v w h with
  | none => rw [eo] at q; exact cpv (ca := ca) hu op pins s st H x y u u' Q I rx ry ⟨ia, h, v, w, E, R, r1, r2, q⟩
  | some p =>
    obtain ⟨k, args⟩ := p
    rw [eo] at q
    match d, L, hr, q with
    | 0, _, _, q => exact (show False from q).elim
    | d' + 1, L, hr, q =>
      have q : Want X.K ca ia H (r.c d' k args h) Q E := q
      obtain ⟨mm, hF⟩ := I.fr
      unfold ownO at eo
      split at eo
      · rename_i f g hfg
        have O := cmpF hfg
        rw [O.hop]
        split at eo
        · rename_i k0 k1 hk0 hk1 hb
          cases eo
          obtain ⟨c, Ic, n, fs, a, dx, vs, hI, hm, hv, hy, hins, hs⟩ := mth_at R r1 hk0
          obtain ⟨g1, fd, ps, D, M1, F1, hD, hdf⟩ := L.mth d' c Ic f _ rfl hI hm
          have C := L.ops c Ic hI
          subst hy
          obtain rfl : u = Value.ref a := rx
          obtain ⟨ox, od, nda, J, _⟩ := ist_inst I hs
          rcases Bool.or_eq_true_iff.mp hb with hb | hb
          · obtain ⟨j, t, e1, e2, e3⟩ := isI_int hb r2 ry
            subst e1 e2 e3
            refine PySem.W.cmp_K (op := op) (tb := .type "int") hr.units0 hF I.ok.mod.kin J (PySem.W.Looks.of_pure rfl) ?_ (by rw [O.f]; exact M1.at_) M1.fn (call2 (x := .ref a) hx hgd hr F1 hdf I rfl ry R r1 r2 q)
            unfold PySem.W.notFirst
            rw [C.ic]
            simp
          · obtain ⟨b, dy, ws, e1, hs2⟩ := same_at R hins hb r2
            subst e1
            obtain rfl : u' = Value.ref b := ry
            obtain ⟨ox2, od2, _, J2, _⟩ := ist_inst I hs2
            refine PySem.W.cmp_K (op := op) (tb := .ref (ca c)) hr.units0 hF I.ok.mod.kin J J2.type ?_ (by rw [O.f]; exact M1.at_) M1.fn (call2 (x := .ref a) (y := .ref b) hx hgd hr F1 hdf I rfl rfl R r1 r2 q)
            unfold PySem.W.notFirst
            simp
        · split at eo
          · rename_i k0 k1 hb hk0 hk1
            cases eo
            obtain ⟨c, Ic, n, fs, a, dx, vs, hI, hm, hv, hy, hins, hs⟩ := mth_at R r2 hk1
            obtain ⟨g1, fd, ps, D, M1, F1, hD, hdf⟩ := L.mth d' c Ic g _ rfl hI hm
            have C := L.ops c Ic hI
            subst hy
            obtain rfl : u' = Value.ref a := ry
            obtain ⟨ox, od, nda, J, _⟩ := ist_inst I hs
            obtain ⟨j, t, e1, e2, e3⟩ := isI_int hb r1 rx
            subst e1 e2 e3
            obtain ⟨id, name, fn, f2, f3, f4⟩ := O.int
            exact cmp_refl hr.units0 hF I.ok.mod.kin J nda f2 f3 (f4 _ _) (O.one _ _ _) (by rw [O.g]; exact M1.at_) M1.fn C.ci (call2 (x := .ref a) hx hgd hr F1 hdf I rfl rx R r2 r1 q)
          · cases eo
      · cases eo
theorem want_neg {K : PySem.W.Frag} {ia : List Addr} {H : Hp} {x : Res Val} {Q : VK} (q : Want K ca ia H (negB x) Q E) : Want K ca ia H x (fun y H' => ∃ b, y = .bl b ∧ Q (.bl (!b)) H') fun _ _ _ => False := by
  unfold negB at q
  split at q
  · intro ka H' w g R r
    cases r
    exact ⟨_, rfl, q ka H' _ g R (.bl _)⟩
  · exact (show False from q).elim
theorem neO_at {op : CmpOp} {v w : Val} {h : LH} {k : Nat} (e : neO G op v w h = some k) : op = .NotEq ∧ sameC v w h = true ∧ mthO G v "__eq__" h = some k := by
  unfold neO at e
  split at e
  · split at e
    · rename_i z
      exact ⟨rfl, z, e⟩
    · cases e
  · cases e
/-- a comparison, != among them -/
theorem cpvN {op : CmpOp} (hu : X.A.units + 65 < cLine) (L : LvK X ca G r d) (hx : Passes (L2.CX X.prog X.w) X E) (hgd : X.A.guards = some []) (hr : Room d X.A) : OpR X (compareOp op) (rV2O X.K ca E (fun v w h => stCmp G r d op v w h)) := by
  intro pins s st H x y u u' Q I rx ry ⟨ia, h, v, w, R, r1, r2, q⟩
  dsimp only at q
  unfold stCmp at q
  cases eo : neO G op v w h with
  | none => rw [eo] at q; exact cpvO hu L hx hgd hr pins s st H x y u u' Q I rx ry ⟨ia, h, v, w, R, r1, r2, q⟩
  | some k =>
    rw [eo] at q
    obtain ⟨e1, e2, e3⟩ := neO_at eo
    subst e1
    match d, L, hr, q with
    | 0, _, _, q => exact (show False from q).elim
    | 1, _, _, q => exact (show False from q).elim
    | d' + 2, L, hr, q =>
      have q := want_neg (show Want X.K ca ia H (negB (r.c d' k [v, w] h)) Q E from q)
      obtain ⟨mm, hF⟩ := I.fr
      obtain ⟨c, Ic, n, fs, a, dx, vs, hI, hm, hv, hy, hins, hs⟩ := mth_at R r1 e3
      obtain ⟨g1, fd, ps, D, M1, F1, hD, hdf⟩ := L.mt2 d' c Ic _ _ rfl hI hm
      obtain ⟨b, dy, ws, e4, hs2⟩ := same_at R hins e2 r2
      have C := L.ops c Ic hI
      subst hy
      subst e4
      obtain rfl : u = Value.ref a := rx
      obtain rfl : u' = Value.ref b := ry
      obtain ⟨ox, od, _, J, _⟩ := ist_inst I hs
      obtain ⟨ox2, od2, _, J2, _⟩ := ist_inst I hs2
      obtain ⟨ds, dvs, hb, hd, hv⟩ := hdf D.dfl.length
      have hv0 : dvs = [] := by
        have := (hv [] (fun _ => none)).len
        rw [List.drop_length] at this
        exact List.length_eq_zero_iff.mp this.symm
      subst hv0
      cases hd
      have hsp : spC X.K ca (r.c d' k) [.ref a, .ref b] H (fun y H' => ∃ b, y = .bl b ∧ Q (.bl (!b)) H') fun _ _ _ => False := ⟨ia, h, [v, w], R, .cons r1 (.cons r2 .nil), q⟩
      have hl : ([Value.ref a, Value.ref b] : List Value).length = ps.length := F1.len _ _ _ _ hsp
      have hb' := hb s [.ref a, .ref b] I.kIn (by rw [List.append_nil]; exact hl)
      rw [List.append_nil] at hb'
      refine ne_K (by omega) hF I.ok.mod.kin J J2 C.ob C.ne M1.at_ M1.fn (wpAny_call (codeAny_mono (F1.run X.A.in1 X.stack s H ⟨[.ref a, .ref b], []⟩ [.ref a, .ref b] [.ref a, .ref b] _ _ (gd_in1 hgd) hr.in1 I.env0.in1 hb' (.cons rfl (.cons rfl .nil)) hsp) fun r s' hq => ?_))
      cases r with
      | error e => exact (cx_no hq).elim
      | ok fl =>
        cases fl with
        | ret u =>
          obtain ⟨y, H', I2, ry, z, ez, qz⟩ := I.after hq
          subst ez
          cases ry
          exact ⟨z, rfl, .bl (!z), H', I2, rfl, qz⟩
        | next => exact False.elim hq
        | brk => exact False.elim hq
        | cont => exact False.elim hq
/-! ### -x -/
def rV1O (K : PySem.W.Frag) (ca : CaT) (E : XK) (f : Val → LH → Res Val) : V → Hp → VK → Prop := fun x H Q => ∃ (ia : List Addr) (h : LH) (v : Val), Rep K ca ia H h ∧ RV K ia H v x ∧ Want K ca ia H (f v h) Q E
theorem uvO (L : LvK X ca G r d) (hx : Passes (L2.CX X.prog X.w) X E) (hgd : X.A.guards = some []) (hr : Room d X.A) : UnR X (unaryOp .USub) (rV1O X.K ca E (fun v h => stOwn r d ((mthO G v "__neg__" h).map fun k => (k, [v])) (vNeg v h) h)) := by
  intro pins s st H x u Q I rx ⟨ia, h, v, R, r1, q⟩
  dsimp only at q
  cases eo : mthO G v "__neg__" h with
  | none => rw [eo] at q; exact uv_neg (ca := ca) pins s st H x u Q I rx ⟨ia, h, v, E, R, r1, q⟩
  | some k =>
    rw [eo] at q
    match d, L, hr, q with
    | 0, _, _, q => exact (show False from q).elim
    | d' + 1, L, hr, q =>
      have q : Want X.K ca ia H (r.c d' k [v] h) Q E := q
      obtain ⟨mm, hF⟩ := I.fr
      obtain ⟨c, Ic, n, fs, a, dx, vs, hI, hm, hv, hy, hins, hs⟩ := mth_at R r1 eo
      obtain ⟨g1, fd, ps, D, M1, F1, hD, hdf⟩ := L.mth d' c Ic _ _ rfl hI hm
      subst hy
      obtain rfl : u = Value.ref a := rx
      obtain ⟨ox, od, nda, J, _⟩ := ist_inst I hs
      obtain ⟨ds, dvs, hb, hd, hv⟩ := hdf D.dfl.length
      have hv0 : dvs = [] := by
        have := (hv [] (fun _ => none)).len
        rw [List.drop_length] at this
        exact List.length_eq_zero_iff.mp this.symm
      subst hv0
      refine PySem.W.ksp_neg hF I.ok.mod.kin J M1.at_ M1.fn ?_
      exact run_fnGd (us := [.ref a]) (vs := [.ref a]) F1 hgd hr hb hd hx I (.cons rfl .nil) (by rw [List.append_nil]; exact ⟨ia, h, [v], R, .cons r1 .nil, q⟩)
/-! ### expressions -/
section
variable {a b : Expr} {pos : Pos} {ma mb : M Val}
theorem twoO {W : WS} {f : Val → Val → LH → Res Val} {v w : Val} {x y : V} {st : L2.St} {H : Hp} {Q : VK} (t : tC X.K ca (wE E) [w, v] [y, x] (fun sl h => f v w h) st H Q) : rV2O X.K ca E f x y H Q := by
  obtain ⟨ia, sl, h, R, S, r, q⟩ := t
  cases r with
  | cons r2 r =>
    cases r with
    | cons r1 _ => exact ⟨ia, h, v, w, R, r1, r2, q⟩
theorem d_binO {op : Operator} (L : LvK X ca G r d) (tk : Takes X (wE E)) (hgd : X.A.guards = some []) (hr : Room d X.A) (ha : PE X a (tOf X.K ca (wE E) ma)) (hb : PE X b (tOf X.K ca (wE E) mb)) :
    PE X (.BinOp a op b pos) (tOf X.K ca (wE E) (fun sl h => (ma sl h).bind fun v h1 => (mb sl h1).bind fun w h2 => stOwn r d (ownO G (dunB op) v w h2) (vBin op v w h2) h2)) := by
  have hx : Passes (L2.CX X.prog X.w) X E := passes_call tk fun _ _ _ _ z => z
  refine pe_imp (pe_op (opvO L hx hgd hr) ha hb) fun st H Q t => ?_
  refine (tC.step (f := fun v sl h1 => (mb sl h1).bind fun w h2 => stOwn r d (ownO G (dunB op) v w h2) (vBin op v w h2) h2) t).mono fun x H1 ⟨v, t1⟩ => ?_
  exact (tC.step (f := fun w sl h2 => stOwn r d (ownO G (dunB op) v w h2) (vBin op v w h2) h2) t1).mono fun y H2 ⟨w, t2⟩ => twoO (W := wE E) (f := fun v w h2 => stOwn r d (ownO G (dunB op) v w h2) (vBin op v w h2) h2) t2
theorem d_cmpO {op : CmpOp} (hu : X.A.units + 65 < cLine) (hm : behindInMarks op b = false) (L : LvK X ca G r d) (tk : Takes X (wE E)) (hgd : X.A.guards = some []) (hr : Room d X.A) (ha : PE X a (tOf X.K ca (wE E) ma)) (hb : PE X b (tOf X.K ca (wE E) mb)) :
    PE X (.Compare a [op] [b] pos) (tOf X.K ca (wE E) (fun sl h => (ma sl h).bind fun v h1 => (mb sl h1).bind fun w h2 => stCmp G r d op v w h2)) := by
  have hx : Passes (L2.CX X.prog X.w) X E := passes_call tk fun _ _ _ _ z => z
  refine pe_imp (pe_cmpR (cpvN hu L hx hgd hr) ha hb hm) fun st H Q t => ?_
  refine (tC.step (f := fun v sl h1 => (mb sl h1).bind fun w h2 => stCmp G r d op v w h2) t).mono fun x H1 ⟨v, t1⟩ => ?_
  exact (tC.step (f := fun w sl h2 => stCmp G r d op v w h2) t1).mono fun y H2 ⟨w, t2⟩ => twoO (W := wE E) (f := fun v w h2 => stCmp G r d op v w h2) t2
theorem dt_cmpO {op : CmpOp} (hu : X.A.units + 65 < cLine) (hm : behindInMarks op b = false) (L : LvK X ca G r d) (tk : Takes X (wE E)) (hgd : X.A.guards = some []) (hr : Room d X.A) (ha : PE X a (tOf X.K ca (wE E) ma)) (hb : PE X b (tOf X.K ca (wE E) mb)) :
    PT X (.Compare a [op] [b] pos) (tOfB X.K ca (wE E) (fun sl h => ((ma sl h).bind fun v h1 => (mb sl h1).bind fun w h2 => stCmp G r d op v w h2).bind fun v h1 => match v with
    | .bl b => .ok b h1
    | _ => .bad)) := by
  have hx : Passes (L2.CX X.prog X.w) X E := passes_call tk fun _ _ _ _ z => z
  refine pt_imp (pt_cmpR (cpvN hu L hx hgd hr) ha hb hm) fun st H Q t => ?_
  have t' := tst_val (m := fun sl h => (ma sl h).bind fun v h1 => (mb sl h1).bind fun w h2 => stCmp G r d op v w h2) t
  show tOf X.K ca (wE E) ma st H fun x H1 => tOf X.K ca (wE E) mb st H1 fun y H2 => rV2O X.K ca E (fun v w h2 => stCmp G r d op v w h2) x y H2 _
  refine (tC.step (f := fun v sl h1 => (mb sl h1).bind fun w h2 => stCmp G r d op v w h2) t').mono fun x H1 ⟨v, t1⟩ => ?_
  exact (tC.step (f := fun w sl h2 => stCmp G r d op v w h2) t1).mono fun y H2 ⟨w, t2⟩ => twoO (W := wE E) (f := fun v w h2 => stCmp G r d op v w h2) t2
theorem d_negO (L : LvK X ca G r d) (tk : Takes X (wE E)) (hgd : X.A.guards = some []) (hr : Room d X.A) (ha : PE X a (tOf X.K ca (wE E) ma)) : PE X (.UnaryOp .USub a pos) (tOf X.K ca (wE E) (fun sl h => (ma sl h).bind fun v h1 => stOwn r d ((mthO G v "__neg__" h1).map fun k => (k, [v])) (vNeg v h1) h1)) := by
  have hx : Passes (L2.CX X.prog X.w) X E := passes_call tk fun _ _ _ _ z => z
  refine pe_imp (pe_un (uvO L hx hgd hr) ha) fun st H Q t => ?_
  refine (tC.step (f := fun v sl h1 => stOwn r d ((mthO G v "__neg__" h1).map fun k => (k, [v])) (vNeg v h1) h1) t).mono fun x H1 ⟨v, t1⟩ => ?_
  obtain ⟨ia, sl, h, R, S, rr, q⟩ := t1
  cases rr with
  | cons rx _ => exact ⟨ia, h, v, R, rx, q⟩
end
end
end Mi

set_option Elab.async false
set_option linter.all false
set_option maxRecDepth 100000
set_option maxHeartbeats 2000000
/-! T1: try: body, except x as n: suite, where the error is kept behind the suite. -/
namespace Mi
open PySem PySem.Spec PyProof.Rows L2
section
variable {X : Cx} {pins : List (Addr × Obj)} {σ : L2.St} {H : Hp} {s : Shared}
/-- a caught error is known from now on -/
theorem keep_err {a C d : Addr} {oe : Obj} {vs : Array Value} (I : Inv X ((a, oe) :: pins) σ H s) (hz : Zc (.ref C) (some d) oe) (hd : oe.data = .fields vs) (n0 : X.s_0.heap.get? a = none) (np : ∀ p ∈ X.pn ++ pins, p.1 ≠ a) : Inv X pins σ (upd H a (exw a C d)) s := by
  obtain ⟨e, n, nl, nf, nc⟩ := I.pin (a, oe) (List.mem_append_right _ List.mem_cons_self)
  have ne : ∀ {b : Addr} {o : HO}, H b = some o → b ≠ a := fun {b o} q => ne_of_none q n
  refine ⟨I.ok, I.os, I.bare, ⟨I.base.keep, I.base.slot, fun b o q h0 hx => ?_, I.base.there, fun b xs q => ?_, fun b o u q => ?_, fun b ps q => ?_⟩, I.loc, I.cell, ?_, fun y c q => ?_, fun p hp => ?_, fun b u q => ?_, I.len⟩
  · have nb : b ≠ a := fun z => by rw [z, n0] at q; cases q
    rw [upd_ne nb]
    exact I.base.free b o q h0 hx
  · have q' := I.base.tups b xs q
    rw [upd_ne (ne q')]
    exact q'
  · have q' := I.base.frzs b o u q
    rw [upd_ne (ne q')]
    exact q'
  · obtain ⟨more, q'⟩ := I.base.tbls b ps q
    exact ⟨more, by rw [upd_ne (ne q')]; exact q'⟩
  · rw [upd_ne (Ne.symm nl)]
    exact I.free
  · have nb : c ≠ a := fun z => by
      obtain ⟨v, o, ho, hdc⟩ := I.cell y c q
      rw [z, e] at ho
      cases ho
      exact nc v hdc
    rw [upd_ne nb]
    exact I.freeC y c q
  · obtain ⟨e1, e2, e3⟩ := I.pin p (by
      rcases List.mem_append.mp hp with z | z
      · exact List.mem_append_left _ z
      · exact List.mem_append_right _ (List.mem_cons_of_mem _ z))
    exact ⟨e1, by rw [upd_ne (np p hp)]; exact e2, e3⟩
  · by_cases hb : b = a
    · rw [hb, upd_same] at q
      cases q
      rw [hb]
      exact ⟨⟨oe, e, hz.1, hz.2, vs, hd⟩, ⟨oe, e⟩, fun h1 h2 ⟨o, q1, q2, q3, q4⟩ st => ⟨o, st _ q1, q2, q3, q4⟩⟩
    · rw [upd_ne hb] at q
      refine (I.hok b u q).stay (fun c w hc z => z) (fun c z => by rw [upd_ne (ne z)]; exact z) fun c xs z => by rw [upd_ne (ne z)]; exact z
theorem unsuite2 {a : Addr} {q : Addr × Obj} {pn' : List (Addr × Obj)} (I : Inv (X.suite a (q :: (X.pn ++ pins))) pn' σ H s) (ok : X.Ok) : Inv X (q :: pins) σ H s :=
  ⟨ok, I.os, I.bare, I.base, I.loc, I.cell, I.free, I.freeC, fun p hp => I.pin p (List.mem_append_left _ (by
    rcases List.mem_append.mp hp with z | z
    · exact List.mem_cons_of_mem _ (List.mem_append_left _ z)
    · rcases List.mem_cons.mp z with z | z
      · rw [z]; exact List.mem_cons_self
      · exact List.mem_cons_of_mem _ (List.mem_append_right _ z))), I.hok, I.len⟩
end
/-- the wish of an error that is caught and kept -/
def wKeep (K : PySem.W.Frag) (c : Value) (i : Nat) (ts : Addr → TS) (D : Ends) : WX := fun cls d σ H =>
  PySem.W.exmOne K cls c = some true ∧ ∃ C d', cls = .ref C ∧ d = some d' ∧ ∀ a, H a = none → ts a { nx := fun σ' H' => D.nx (σ'.set i none) (upd H' a (exw a C d')), rt := fun _ _ => False, bk := fun _ _ => False, ct := fun _ _ => False } (σ.set i (some (.ref a))) H
section
variable {X : Cx} {x n : Str} {c : Value} {i : Nat} {body suite : List Stmt} {b₀ : Stmt} {np pos pos' : Pos} {tb : WX → TS} {ts : Addr → TS}
theorem ps_try_keep (hex : X.ex = []) (hs : X.stack = X.env :: X.outer) (hf : X.env.frame = some X.env.locals) (hN : X.N.Nodup) (hi : X.N[i]? = some n) (hln : X.env.kindOf n = some .local) (hc : Names X x c)
    (hb : ∀ (W : WX) (pn : List (Addr × Obj)) (xe : Value → Shared → Prop), Takes (X.tr pn xe) W → PSs (X.tr pn xe) body (tb W))
    (hsu : ∀ (a : Addr) (oe : Obj) (pn : List (Addr × Obj)), PSs (X.suite a ((a, oe) :: pn)) (b₀ :: suite) (ts a)) :
    PS X (.Try body [.ExceptHandler (some (.Name x np)) (some n) (b₀ :: suite) pos'] [] [] pos) (fun D σ H => tb (wKeep X.K c i ts D) D σ H) := by
  refine ⟨fun pins s σ H D I h => ?_⟩
  have ok := I.ok
  have hfr : X.A.frames = some (X.env :: X.outer) := by rw [ok.frames, hs]
  refine wpAny_Try_except ?_
  refine wpAny_mono ((hb (wKeep X.K c i ts D) (X.pn ++ pins) (fun e s₁ => wpAny (model X.prog X.w) X.A (noteFrame e X.env) (fun _ s₂ => wpAny (model X.prog X.w) X.A (setFlight e none) (fun _ s₃ =>
    wpAny (model X.prog X.w) X.A (handleBy e X.env [.ExceptHandler (some (.Name x np)) (some n) (b₀ :: suite) pos']) (SP X pins D) X.xe s₃) X.xe s₂) X.xe s₁) (fun u s' xx => ?_)).run [] s σ H D (I.toTry _) h) (fun f s1 hsp => ?_) (fun e s1 he => he)
  · obtain ⟨a, B, sI, pins', σ', H', cls, d, rfl, J', nb, up, sky, na, os, ag, hb1, C, d', rfl, rfl, hyes⟩ := xx
    have J : Inv X pins σ' H' sI := J'.ofTry ok
    have sky' : Sky B (X.env :: X.outer) a (Zc (.ref C) (some d')) X.env.locals s'.heap := by rw [← hs]; exact sky
    show wpAny (model X.prog X.w) X.A (noteFrame (.ref a) X.env) _ _ _
    refine Sky.land Zc.steady hfr hf sky' fun h3 fl3 up3 => ?_
    have J3 : Inv X pins σ' H' { s' with heap := h3 } := J.landed nb fl3.1 (up.trans up3) os ag
    obtain ⟨oe3, vs3, he3, hz3, hd3⟩ := fl3.there
    have nfr : a ∉ frs (X.env :: X.outer) := fun hm => by
      obtain ⟨_, o', e', hnf⟩ := fl3.2.2.1.mem hm
      rw [he3] at e'
      cases e'
      exact hnf _ hd3
    have nL : a ≠ X.env.locals := fun z => nfr (List.mem_filterMap.mpr ⟨X.env, List.mem_cons_self, by rw [hf, z]⟩)
    have nF : a ∉ X.fs := fun hm => by
      obtain ⟨e, he, q⟩ := List.mem_filterMap.mp hm
      exact nfr (List.mem_filterMap.mpr ⟨e, List.mem_cons_of_mem _ he, q⟩)
    -- the error is new since the body began
    have nI : sI.heap.get? a = none := by
      cases q : sI.heap.get? a with
      | none => rfl
      | some o =>
        have z := nb a o q (by rw [hs]; exact nfr)
        rw [fl3.2.1] at z
        cases z
    have n0 : X.s_0.heap.get? a = none := by
      cases q : X.s_0.heap.get? a with
      | none => rfl
      | some o =>
        obtain ⟨o', z⟩ := J.base.there a o q (by rw [hex]; exact fun z => nomatch z)
        rw [nI] at z
        cases z
    have npn : ∀ p ∈ X.pn ++ pins, p.1 ≠ a := fun p hp z => by
      have q := (J.pin p hp).1
      rw [z, nI] at q
      cases q
    have S3 := J3.suite he3 hd3 na nL nF
    refine wpAny_handleBy_cons (codeAny_handlers_test ?_) (by intro q; cases q)
    have LT : PySem.W.Looks (model X.prog X.w) h3 (typeOf (.ref a)) (.ref C) := fun A Q E s k q => wpAny_typeOf_ref (k _ _ he3) (by rw [hz3.1]; exact q)
    have LM := PySem.W.exm_one (M := model X.prog X.w) (J3.kIn) LT hb1
    have test : ∀ {Q : Value → Shared → Prop} {E : Value → Shared → Prop}, Q c { s' with heap := h3 } → wpAny (model X.prog X.w) (X.A.mark (some (.ref a))) (eval (.Name x np) X.env) Q E { s' with heap := h3 } := fun {Q E} q => by
      obtain ⟨hg, hdbg, hm | ⟨hm, hv, hnn⟩⟩ := hc
      · exact ld_glob (X := X.suite a ((a, oe3) :: (X.pn ++ pins))) S3 hg hm q hdbg
      · exact ld_blt (X := X.suite a ((a, oe3) :: (X.pn ++ pins))) S3 hg hm hv q hnn hdbg
    refine test (LM.here ?_)
    refine codeAny_handlers_suite_as ?_
    refine HandSPX.lands_againZ fl3 fun h4 fl4 up4 => ?_
    have J4 : Inv X pins σ' H' { s' with heap := h4 } := J.landed nb fl4.1 ((up.trans up3).trans up4) os ag
    obtain ⟨oe4, vs4, he4, hz4, hd4⟩ := fl4.there
    have S4 := J4.suite he4 hd4 na nL nF
    refine store_ok (X := X.suite a ((a, oe4) :: (X.pn ++ pins))) (v := .ref a) S4 hN hi (.inl hln) rfl (fun s5 S5 => ?_) (.inr hln)
    refine wpAny_mono ((hsu a oe4 (X.pn ++ pins)).run [] s5 _ H' _ S5 (hyes a na)) (fun f s6 hsp => ?_) (fun _ _ z => False.elim z)
    cases f with
    | next =>
      obtain ⟨σ6, H6, S6, q6⟩ := hsp
      exact gone_ok (unsuite2 S6 ok) hN hi hln fun s7 J7 => ⟨_, _, keep_err J7 hz4 hd4 n0 npn, q6⟩
    | brk => obtain ⟨_, _, _, q6⟩ := hsp; exact (show False from q6).elim
    | cont => obtain ⟨_, _, _, q6⟩ := hsp; exact (show False from q6).elim
    | ret u => obtain ⟨_, _, _, _, _, q6⟩ := hsp; exact (show False from q6).elim
  · cases f with
    | next =>
      obtain ⟨σ', H', J', q⟩ := hsp
      exact wpAny_execs_nil ⟨σ', H', J'.ofTry ok, q⟩
    | brk =>
      obtain ⟨σ', H', J', q⟩ := hsp
      exact ⟨σ', H', J'.ofTry ok, q⟩
    | cont =>
      obtain ⟨σ', H', J', q⟩ := hsp
      exact ⟨σ', H', J'.ofTry ok, q⟩
    | ret u =>
      obtain ⟨v, σ', H', J', r, q⟩ := hsp
      exact ⟨v, σ', H', J'.ofTry ok, r, q⟩
end
end Mi

set_option Elab.async false
set_option linter.all false
set_option maxRecDepth 100000
set_option maxHeartbeats 2000000
/-! T2: a lambda without parameters is made; it is called by the def that got it. -/
namespace Mi
open PySem PySem.Spec PyProof.Rows L2 LamX
/-- behind the making of a lambda -/
def LamMade (H H1 : Hp) (P c' : Addr) (q : Str) : Prop := H1 = H ∨ ∃ (ps : Array Value) (pos : Pos), H P = some (.tbl ps) ∧ H c' = none ∧ H1 = upd (upd H P (.tbl (ps ++ #[rawInt pos.line, rawInt pos.col, .ref c']))) c' (CodeO c' q)
section
variable {X : Cx} {pins : List (Addr × Obj)} {σ : L2.St} {H : Hp} {s : Shared} {ia : List Addr}
theorem TabI.tabS {P : Addr} {q : Str} (t : TabI ia H P q) : TabS H P q := by
  obtain ⟨ps, h1, h2, h3⟩ := t
  exact ⟨ps, h1, h2, fun pos cv hc => let ⟨c, e1, _, e2⟩ := h3 pos cv hc; ⟨c, e1, e2⟩⟩
theorem lam_made {c P : Addr} {params : Arguments} {body : Expr} {scope : Scope} {pos : Pos} {E : Value → Shared → Prop} {Q : Value → Shared → Prop} (I : Inv X pins σ H s) (TB : TabB X.base X.mg c P) (hcode : X.env.code = .ref c)
    (hT : TabS H P (X.env.qual ++ "<lambda>")) (hdef : defaultsOf params X.env = ([], [])) (hfree : ∀ y ∈ scope.names, y.2 = .free → ∃ c, X.env.cells.lookup y.1 = some c)
    (h : ∀ (f c' : Addr) (pm ctv : Value) (H1 : Hp) (s' : Shared), Inv X pins σ H1 s' → LamMade H H1 P c' (X.env.qual ++ "<lambda>") →
      s'.heap.get? f = some (PySem.W.kla_obj "<lambda>" (X.env.qual ++ "<lambda>") params body scope (cloFrom X.env.cells scope.names []) pm c' ctv) → H1 f = none → f ∉ frs X.stack → H1 c' = some (CodeO c' (X.env.qual ++ "<lambda>")) → Q (.ref f) s') :
    wpAny (model X.prog X.w) X.A (eval (.Lambda params body scope pos) X.env) Q E s := by
  obtain ⟨ps, hP, ht, ha⟩ := hT
  refine PySem.W.kla_eval hdef ?_
  have bP : s.heap.BuiltinsAt X.mg P := TB.bm.keeps I.bk
  have hP' : s.heap.get? P = some { cls := .none, data := .fields ps } := I.hok P _ hP
  have nofr : ∀ f, s.heap.objs.size ≤ f → f ∉ frs X.stack := fun f hf z => by
    rcases List.mem_cons.mp (I.stkSub _ z) with e | e
    · have h1 := I.lt
      rw [← e] at h1
      exact Nat.lt_irrefl _ (Nat.lt_of_lt_of_le h1 hf)
    · exact I.nofs hf e
  cases hc : codeAmong pos ps.toList with
  | none =>
    refine PySem.W.kla_makeFunction (mg := X.mg) (c := c) (P := P) (ps := ps) (closure_ok hfree) I.ok.glob (I.mod.glob.keeps I.bk) hcode (TB.code.keeps I.bk) hP' ht hc TB.gP bP fun c' ctv h' tk hx hge hlt hrec htb => ?_
    obtain ⟨c2, oc, vs, t, e2, hoc, hd, hv⟩ := hrec
    cases e2
    have hsz : s.heap.objs.size ≤ h'.objs.size := Nat.le_trans hge (Nat.le_of_lt hlt)
    have I1 := inv_table (t' := tk) (more := #[rawInt pos.line, rawInt pos.col, .ref c']) (h' := h'.push (PySem.W.kla_obj "<lambda>" (X.env.qual ++ "<lambda>") params body scope (cloFrom X.env.cells scope.names []) ((X.mg "__name__").getD .none) c' ctv)) I hP
      (fun b o hb e => Heap.get?_push_of_some _ (hx b o hb e)) (Heap.get?_push_of_some _ htb) hge ⟨oc, vs, t, Heap.get?_push_of_some _ hoc, hd, hv⟩
    refine h h'.objs.size c' ((X.mg "__name__").getD .none) ctv _ _ I1 (.inr ⟨ps, pos, hP, I.hok.fresh hge, rfl⟩) (Heap.get?_push_size _ rfl) ?_ (nofr _ hsz) upd_same
    rw [upd_ne (Nat.ne_of_gt hlt), upd_ne (Nat.ne_of_gt (Nat.lt_of_lt_of_le (Heap.lt_size hP') hsz))]
    exact I.hok.fresh hsz
  | some cv =>
    obtain ⟨c', e, hco⟩ := ha pos cv hc
    subst e
    refine PySem.W.kla_makeFunctionHit (mg := X.mg) (c := c) (P := P) (ps := ps) (closure_ok hfree) I.ok.glob (I.mod.glob.keeps I.bk) hcode (TB.code.keeps I.bk) hP' ht hc bP fun ctv h' tk hx hsz => ?_
    have I1 : Inv X pins σ H { s with heap := h'.push (PySem.W.kla_obj "<lambda>" (X.env.qual ++ "<lambda>") params body scope (cloFrom X.env.cells scope.names []) ((X.mg "__name__").getD .none) c' ctv), toks := tk } := I.kept fun b o e => Heap.get?_push_of_some _ (hx b o e)
    exact h h'.objs.size c' ((X.mg "__name__").getD .none) ctv H _ I1 (.inl rfl) (Heap.get?_push_size _ rfl) (I.hok.fresh hsz) (nofr _ hsz) hco
/-- the small heap behind it -/
theorem LamMade.rep {K : PySem.W.Frag} {ca : CaT} {H1 : Hp} {h : LH} {P c' : Addr} {q : Str} (R : Rep K ca ia H h) (hu : ∀ p ∈ ca.T, p.1 = P → p.2 = q) (m : LamMade H H1 P c' q) : Rep K ca ia H1 h ∧ Grow ia H [] H1 := by
  rcases m with rfl | ⟨ps, pos, hP, hc, rfl⟩
  · exact ⟨R, Grow.refl ia _⟩
  have nPc : P ≠ c' := ne_of_none hP hc
  have ne : ∀ {b : Addr} {o : HO}, H b = some o → (∀ ps, o ≠ .tbl ps) → b ≠ P ∧ b ≠ c' := fun {b o} e n => ⟨fun z => n ps (Option.some.inj (e.symm.trans (by rw [z]; exact hP))), ne_of_none e hc⟩
  have keep : ∀ {b : Addr} {o : HO}, H b = some o → (∀ ps, o ≠ .tbl ps) → upd (upd H P (.tbl (ps ++ #[rawInt pos.line, rawInt pos.col, .ref c']))) c' (CodeO c' q) b = some o := fun {b o} e n => by
    rw [upd_ne (ne e n).2, upd_ne (ne e n).1]
    exact e
  have g : Grow ia H [] (upd (upd H P (.tbl (ps ++ #[rawInt pos.line, rawInt pos.col, .ref c']))) c' (CodeO c' q)) := by
    refine ⟨fun b o e _ _ n => keep e n, fun b o e => ?_, (fun _ z => nomatch z), fun b y e _ => .inl (keep e fun _ z => by cases z), fun b o u e => keep e fun _ z => by cases z⟩
    by_cases hb : b = P
    · rw [hb, upd_ne nPc, upd_same]
      exact ⟨_, rfl⟩
    · rw [upd_ne (ne_of_none e hc), upd_ne hb]
      exact ⟨_, e⟩
  have k := g.hold R
  refine ⟨⟨R.len, R.nd, fun n o a e1 e2 => ?_, fun p hp => ?_⟩, g⟩
  · have r := R.ob n o a e1 e2
    obtain ⟨u, e, _, _, _, _, nt⟩ := r.kind
    have z := r.stay (ka := []) k ((keep e nt).trans e.symm)
    rw [app_nil] at z
    exact z
  · have eL : (ps ++ #[rawInt pos.line, rawInt pos.col, .ref c']).toList = ps.toList ++ [rawInt pos.line, rawInt pos.col, .ref c'] := by simp
    have code : ∀ {c : Addr} {r : Str}, H c = some (CodeO c r) → upd (upd H P (.tbl (ps ++ #[rawInt pos.line, rawInt pos.col, .ref c']))) c' (CodeO c' q) c = some (CodeO c r) := fun {c r} e => keep e codeO_ne
    obtain ⟨ps', a1, a2, a3⟩ := R.tab p hp
    by_cases hb : p.1 = P
    · have eq := hu p hp hb
      rw [hb, hP] at a1
      cases a1
      rw [hb, eq]
      rw [eq] at a3
      refine ⟨_, by rw [upd_ne nPc, upd_same], by rw [eL]; exact PySem.TriplesOk_snoc _ _ _ _ a2, fun p' cv hcv => ?_⟩
      rw [eL] at hcv
      rcases among_app _ a2 hcv with z | z
      · obtain ⟨c0, e1, e2, e3⟩ := a3 p' cv z
        exact ⟨c0, e1, e2, code e3⟩
      · exact ⟨c', z, R.fresh hc, upd_same⟩
    · refine ⟨ps', by rw [upd_ne (ne_of_none a1 hc), upd_ne hb]; exact a1, a2, fun p' cv hcv => ?_⟩
      obtain ⟨c0, e1, e2, e3⟩ := a3 p' cv hcv
      exact ⟨c0, e1, e2, code e3⟩
/-- x(), in the def that got the lambda: Z is that def's context, entered at s -/
theorem act_lam {CXg : CXT} {Eg : XK} {Ng : List Str} {qg : Str} {sg : Scope} {g f c' : Addr} {cdg pm ctv : Value} {params : Arguments} {body : Expr} {scope : Scope} {k i : Nat} {a : Str} {pn : List (Addr × Obj)} {xe : Value → Shared → Prop} {W : WX} {t : XK → TE} {p1 p2 : Pos}
    (I : Inv X pins σ H s) (L : LamS X.env.scope scope) (hf : s.heap.get? f = some (PySem.W.kla_obj "<lambda>" (X.env.qual ++ "<lambda>") params body scope (cloFrom X.env.cells scope.names []) pm c' ctv)) (hfn : H f = none) (hfr : f ∉ frs X.stack)
    (hbind : bindArgs (PySem.W.kla_fn "<lambda>" (X.env.qual ++ "<lambda>") params body scope (cloFrom X.env.cells scope.names []) pm (.ref c') ctv) ⟨[], []⟩ = pure [])
    (tk : Takes ((cxOf CXg X.prog X.w X.K X.mg X.base Ng qg sg g cdg X.A X.stack s H Eg).tr pn xe) W) (hgd : X.A.guards = some []) (hr : Room (k + 1) (X.A.deeper (envOfC qg sg s.heap.objs.size g cdg)))
    (hbody : ∀ (A : Around) (outer : List Env) (s : Shared) (H : Hp) (E : XK), A.guards = some [] → Room k (A.deeper (lamEnv X scope s.heap.objs.size f c')) → PE (lamCx X A outer s H E scope f c') body (t E))
    (hN : Ng[i]? = some a) (hv : Vis sg a) (hd : (a == ("__debug__" : Str)) = false) (hcd : (a == ("__classdict__" : Str)) = false) :
    PE ((cxOf CXg X.prog X.w X.K X.mg X.base Ng qg sg g cdg X.A X.stack s H Eg).tr pn xe) (.Call (.Name a p1) [] [] p2)
      (fun σZ HZ Q => σZ[i]? = some (some (.ref f)) ∧ HZ c' = some (CodeO c' (X.env.qual ++ "<lambda>")) ∧ ∃ E, (∀ cls d H', E cls d H' → W cls d σZ H') ∧ t E σ HZ Q) := by
  refine ⟨fun pinsZ sZ σZ HZ Q IZ h => ?_⟩
  obtain ⟨hs, hc, E, hW, ht⟩ := h
  refine wpAny_Call_Name_kw (thn ((pe_var (pos := p1) (i := i) hN hv hd hcd).run pinsZ sZ σZ HZ (fun v H1 => v = .ref f ∧ H1 = HZ) IZ ⟨.ref f, hs, rfl, rfl⟩) fun u s1 ⟨v, H1, I1, r1, q1⟩ => ?_)
  obtain ⟨ev, eH⟩ := q1
  subst ev
  rw [eH] at I1
  obtain rfl : u = Value.ref f := r1
  have of1 : s1.heap.get? f = some (PySem.W.kla_obj "<lambda>" (X.env.qual ++ "<lambda>") params body scope (cloFrom X.env.cells scope.names []) pm c' ctv) := I1.base.keep f _ hf hfn hfr (fun z => nomatch (show f ∈ ([] : List Addr) from z))
  refine PySem.W.callWith_F0 ⟨_, _, _, _, of1⟩ ?_
  have un : Un (frs X.stack) [] H HZ s.heap s1.heap := I1.base
  obtain ⟨⟨oc, vs, t', hoc, hdc, hvc⟩, _, _⟩ := I1.hok c' _ hc
  have rc : codeAny (model X.prog X.w) (X.A.deeper (envOfC qg sg s.heap.objs.size g cdg)) (.call (.ref f) ⟨[], []⟩) (CR (L2.CX X.prog X.w) (envOfC qg sg s.heap.objs.size g cdg :: X.stack) X.prog X.w HZ s1 Q E) s1 := by
    refine PySem.W.kla_callFunE hr.depth of1 rfl L.co L.gen rfl ⟨c', oc, vs, t', rfl, hoc, hdc, hvc⟩ ?_
    rw [hbind]
    refine wpAny_pure (wpAny_newFunctionEnv (fun y hy => (L.own y hy).2) (fun y hy => absurd hy (by simp)) (fun h₁ hns hsb => ⟨I1.nolimit.fresh _ hsb, ?_⟩) L.kind)
    show codeAny _ _ (.expr body (lamEnv X scope s1.heap.objs.size f c')) _ _
    have kp : ∀ b o, s1.heap.get? b = some o → h₁.get? b = some o := fun b o e => hsb.extBut b o (Nat.ne_of_lt (Heap.lt_size e)) (Heap.get?_push_of_some _ e)
    have J : Inv (lamCx X (X.A.deeper (envOfC qg sg s.heap.objs.size g cdg)) (envOfC qg sg s.heap.objs.size g cdg :: X.stack) s1 HZ E scope f c') [] σ HZ { s1 with heap := h₁, toks := s1.toks + ([] : List (Str × Value)).length } :=
      lam_start2 I L I1.env0 hr.hd un hns kp
    refine PySem.W.kla_codeExpr (wpAny_mono ((hbody (X.A.deeper (envOfC qg sg s.heap.objs.size g cdg)) _ s1 HZ E hgd (hr.deeper _)).run [] _ _ HZ Q J ht) (fun v s' hq => ?_) fun e s' hq => hq)
    obtain ⟨w', H', J', rv, q⟩ := hq
    exact ⟨w', H', J'.os, J'.bare, J'.base, J'.hok, rv, q⟩
  refine wpAny_call (codeAny_mono rc fun r s' hq => ?_)
  cases r with
  | error e => exact tk e s' (XE.of_call I1 (fun cls d H' z => hW cls d H' z) hq)
  | ok fl =>
    cases fl with
    | ret u => exact I1.after hq
    | next => exact False.elim hq
    | brk => exact False.elim hq
    | cont => exact False.elim hq
end
end Mi

set_option Elab.async false
set_option linter.all false
set_option maxRecDepth 100000
set_option maxHeartbeats 2000000
/-! T3: told(lambda: e): (the error, None) or (None, the value). -/
namespace Mi
open PySem PySem.Spec PyProof.Rows L2 LamX
/-- the text of told -/
def ToldB (bg : List Stmt) (a cn bn en En : Str) : Prop := ∃ (k1 k2 k3 j1 j2 : _) (p1 p2 p3 p4 p5 p6 p7 p8 p9 p10 p11 p12 p13 p14 p15 p16 p17 p18 p19 p20 p21 : Pos),
  bg = [.Assign [.Tuple [.Name cn p1, .Name bn p2] k1 p3] (.Tuple [.Constant .none j1 p4, .Constant .none j2 p5] k2 p6) p7,
    .Try [.Assign [.Name bn p8] (.Call (.Name a p9) [] [] p10) p11] [.ExceptHandler (some (.Name En p12)) (some en) [.Assign [.Name cn p13] (.Name en p14) p15] p16] [] [] p17,
    .Return (some (.Tuple [.Name cn p18, .Name bn p19] k3 p20)) p21]
structure TldK (K : PySem.W.Frag) (mg : Str → Option Value) (x : Str) (errs : List Str) : Prop where
  ex : ∃ (g CS : Addr) (fd : FuncData) (pg : Arguments) (bg : List Stmt) (sg : Scope) (a cn bn en En : Str),
    mg x = some (.ref g) ∧ FunD K x x pg bg sg [] [] g fd ∧ L2.Binds K fd [a] [] ∧ FnScope [a, cn, bn, en] [a] sg ∧
    (∀ y ∈ [a, cn, bn, en], sg.names.lookup y = some .local ∧ okN y = true) ∧ sg.names.lookup En = some .globalImplicit ∧ okN En = true ∧ mg En = some (.ref CS) ∧ ToldB bg a cn bn en En ∧
    ∀ c, errs.contains c = true → PySem.W.exmOne K (.ref (He.ga K c)) (.ref CS) = some true
theorem sw_non {sc : Scope} {x y : Str} {p1 p2 q1 q2 : Pos} {j1 j2 : _} : swOk sc [.Name x p1, .Name y p2] [.Constant .none j1 q1, .Constant .none j2 q2] = some false := by
  unfold swOk
  dsimp only
  split
  · rfl
  · split
    · rfl
    · split
      · rfl
      · exact if_pos rfl
section
variable {X : Cx} {ca : CaT}
theorem sw_tup {ts vs : List Expr} {k1 k2 : Nat} {p1 p2 : Pos} (hk : X.env.scope.kind = .function) {b : Bool} (h : swOk X.env.scope ts vs = some b) : ∃ o, swappedStores [.Tuple ts k1 p1] (.Tuple vs k2 p2) X.env = pure o ∧ (b = false → o = none) ∧
    (b = true → o = some (ts.filterMap fun
      | .Name id pos => if X.env.scope.names.lookup id == some .local && pos.line == (ts.head?.map (·.pos.line)).getD 0 then some id else none
      | _ => none) ∧ (ts.filterMap fun
      | .Name id pos => if X.env.scope.names.lookup id == some .local && pos.line == (ts.head?.map (·.pos.line)).getD 0 then some id else none
      | _ => none).length = ts.length ∧ vs.length = ts.length ∧ (ts.filterMap fun
      | .Name id pos => if X.env.scope.names.lookup id == some .local && pos.line == (ts.head?.map (·.pos.line)).getD 0 then some id else none
      | _ => none).eraseDups.length = ts.length) := by
  have hb : X.env.blockKind = .function := by unfold Env.blockKind; rw [hk]; rfl
  unfold swOk at h
  dsimp only at h
  have e0 : swappedStores [.Tuple ts k1 p1] (.Tuple vs k2 p2) X.env = (do
    if (!(ts.length == 2 || ts.length == 3) || vs.length != ts.length || X.env.blockKind != .function) = true then return none
    if (vs.any fun | .Starred .. => true | _ => false) = true then return none
    let line := (ts.head?.map (·.pos.line)).getD 0
    let names := ts.filterMap fun
      | .Name id pos => if X.env.kindOf id == some .local && pos.line == line then some id else none
      | _ => none
    if (names.length != ts.length || names.eraseDups.length != names.length) = true then return none
    if vs.all (foldedForSure 8) = true then return none
    if vs.all (constantsAlone 8) = true then unsupported "assign.tuple-of-constant-expressions:order-of-the-stores"
    return some names) := rfl
  rw [e0, hb]
  split at h
  · rename_i h1
    cases h
    refine ⟨none, ?_, fun _ => rfl, fun z => by cases z⟩
    rw [if_pos (by rw [h1]; rfl)]
  · rename_i h1
    have h1' : (!(ts.length == 2 || ts.length == 3) || vs.length != ts.length || ScopeKind.function != .function) = false := by
      have : (!(ts.length == 2 || ts.length == 3) || vs.length != ts.length) = false := by simpa using h1
      rw [this]; rfl
    rw [h1']
    simp only [Bool.false_eq_true, if_false]
    split at h
    · rename_i h2
      cases h
      refine ⟨none, ?_, fun _ => rfl, fun z => by cases z⟩
      exact if_pos h2
    · rename_i h2
      split at h
      · rename_i h3
        cases h
        refine ⟨none, ?_, fun _ => rfl, fun z => by cases z⟩
        exact (if_neg h2).trans (if_pos h3)
      · rename_i h3
        split at h
        · rename_i h4
          cases h
          refine ⟨none, ?_, fun _ => rfl, fun z => by cases z⟩
          exact (if_neg h2).trans ((if_neg h3).trans (if_pos h4))
        · rename_i h4
          split at h
          · cases h
          · rename_i h5
            cases h
            have z3 := h3
            simp only [Bool.or_eq_true, bne_iff_ne, ne_eq, not_or, Decidable.not_not] at z3
            have z1 : vs.length = ts.length := by
              have : (!(ts.length == 2 || ts.length == 3) || vs.length != ts.length) = false := by simpa using h1
              have := (Bool.or_eq_false_iff.mp this).2
              simpa using this
            refine ⟨some _, (if_neg h2).trans (((if_neg h3).trans (if_neg h4)).trans ?_), fun z => by (cases z), fun _ => ⟨rfl, z3.1, z1, z3.2.trans z3.1⟩⟩
            exact if_neg h5
theorem pe_told {errs : List Str} {x : Str} {c P : Addr} {k : Nat} {params : Arguments} {body : Expr} {scope : Scope} {ev : M Val} {p lpos pos : Pos} {E : XK} (T : TldK X.K X.mg x errs) (hca : ca.fn = He.ga X.K) (hg : Gl X x) (hn : okN x = true)
    (TB : TabB X.base X.mg c P) (hcode : X.env.code = .ref c) (hmT : (P, X.env.qual ++ "<lambda>") ∈ ca.T) (hu : ∀ p ∈ ca.T, p.1 = P → p.2 = X.env.qual ++ "<lambda>") (hgd : X.A.guards = some []) (hr : Room (k + 2) X.A) (L : LamS X.env.scope scope) (hdef : defaultsOf params X.env = ([], []))
    (hbind : ∀ (q : Str) (cl : List (Str × Addr)) (pm cv ctv : Value), bindArgs (PySem.W.kla_fn "<lambda>" q params body scope cl pm cv ctv) ⟨[], []⟩ = pure [])
    (hbody : ∀ (A : Around) (outer : List Env) (s : Shared) (H : Hp) (E : XK) (f c' : Addr), A.guards = some [] → Room k (A.deeper (lamEnv X scope s.heap.objs.size f c')) → PE (lamCx X A outer s H E scope f c') body (tOf X.K ca (wE E) ev)) :
    PE X (.Call (.Name x p) [.Lambda params body scope lpos] [] pos) (tOf X.K ca (wE E) (fun sl h => vTold errs (ev sl h))) := by
  obtain ⟨g, CS, fd, pg, bg, sg, a, cn, bn, en, En, hm, F, hb, Sg, hloc, hgE, hnE, hmE, hB, hEx⟩ := T.ex
  obtain ⟨oc, od, dV, kV, doc, pm, an, cdv, ct, osl, rfl, lk, hcg, _, _⟩ := F.ex
  obtain ⟨k1, k2, k3, j1, j2, p1, p2, p3, p4, p5, p6, p7, p8, p9, p10, p11, p12, p13, p14, p15, p16, p17, p18, p19, p20, p21, rfl⟩ := hB
  have la := hloc a (by simp)
  have lc := hloc cn (by simp)
  have lb := hloc bn (by simp)
  have le := hloc en (by simp)
  refine ⟨fun pins s σ H Q I h => ?_⟩
  obtain ⟨ia, sl, hh, R, S, _, q⟩ := h
  refine wpAny_Call_Name_kw (ld_glob I hg hm ?_ (okN_d hn).1)
  refine PySem.W.callWith_K (h₀ := X.base) I.ok.mod.kin F.kp ?_ (by rfl) (by rfl)
  show wpAny _ _ (spliced ((false, eval (.Lambda params body scope lpos) X.env) :: backTo pos (starEach [] X.env))) _ _ s
  refine Calls.spliced_cons (lam_made I TB hcode (R.tab _ hmT).tabS hdef (L.has I.ok) fun f c' pm' ctv H1 s' I1 made hf hfn hfr hco => ?_)
  refine Calls.spliced_nil ⟨I1.kIn, ?_⟩
  obtain ⟨R1, g1⟩ := made.rep R hu
  have S1 := S.grow g1 R
  rw [app_nil] at S1
  have rc : codeAny (model X.prog X.w) X.A (.call (.ref g) ⟨[.ref f], []⟩) (CR (L2.CX X.prog X.w) X.stack X.prog X.w H1 s' Q fun _ _ _ => False) s' := by
    refine run_ofS (N := [a, cn, bn, en]) (ps := [a]) (us := [.ref f]) (vs := [.ref f]) lk hcg Sg hr I1.env0 (hb s' [.ref f] I1.kIn rfl) (.cons rfl .nil) rfl fun hr' => ?_
    let Z : Cx := cxOf (L2.CX X.prog X.w) X.prog X.w X.K X.mg X.base [a, cn, bn, en] x sg g cdv X.A X.stack s' H1 fun _ _ _ => False
    have hk : Z.env.scope.kind = .function := Sg.kind
    obtain ⟨o, hsw, ho, _⟩ := sw_tup (X := Z) (k1 := k1) (k2 := k2) (p1 := p3) (p2 := p6) hk (b := false) (sw_non (x := cn) (y := bn) (p1 := p1) (p2 := p2) (q1 := p4) (q2 := p5) (j1 := j1) (j2 := j2))
    cases ho rfl
    have gc : ∀ {p : Pos}, PG Z (.Name cn p) (gName 1) := fun {p} => pg_name Sg.nd rfl (.inl lc.1) (.inl rfl)
    have gb : ∀ {p : Pos}, PG Z (.Name bn p) (gName 2) := fun {p} => pg_name Sg.nd rfl (.inl lb.1) (.inl rfl)
    have st1 : PS Z (.Assign [.Tuple [.Name cn p1, .Name bn p2] k1 p3] (.Tuple [.Constant .none j1 p4, .Constant .none j2 p5] k2 p6) p7) (tAsg (tTup (tCons (L2.tC .non) (tCons (L2.tC .non) tNil))) (gTup X.K 2 (gCons (gName 1) (gCons (gName 2) gNil)))) :=
      ps_asg (pe_tup (pa_cons pe_non (pa_cons pe_non pa_nil))) (pg_tup rfl (pgs_cons gc (pgs_cons gb pgs_nil))) rfl hsw rfl
    have st3 : PS Z (.Return (some (.Tuple [.Name cn p18, .Name bn p19] k3 p20)) p21) (tRet (tTup (tCons (tVar 1) (tCons (tVar 2) tNil)))) :=
      ps_ret (pe_tup (pa_cons (pe_var rfl (.inl lc.1) (okN_d lc.2).1 (okN_d lc.2).2.1) (pa_cons (pe_var rfl (.inl lb.1) (okN_d lb.2).1 (okN_d lb.2).2.1) pa_nil)))
    have st2 : PS Z (.Try [.Assign [.Name bn p8] (.Call (.Name a p9) [] [] p10) p11] [.ExceptHandler (some (.Name En p12)) (some en) [.Assign [.Name cn p13] (.Name en p14) p15] p16] [] [] p17) _ :=
      ps_try_keep (X := Z) (c := .ref CS) (i := 3) (ts := fun _ => tAsg (tVar 3) (gName 1))
        (tb := fun W => tAsg (fun σZ HZ Q => σZ[0]? = some (some (.ref f)) ∧ HZ c' = some (CodeO c' (X.env.qual ++ "<lambda>")) ∧ ∃ E, (∀ cls d H', E cls d H' → W cls d σZ H') ∧ tOf X.K ca (wE E) ev σ HZ Q) (gName 2))
        rfl rfl rfl Sg.nd rfl le.1 ⟨hgE, (okN_d hnE).1, .inl hmE⟩
        (fun W pn xe tk => pss_one (ps_asg (X := Z.tr pn xe) (act_lam (i := 0) I1 L hf hfn hfr (hbind _ _ _ _ _) tk hgd hr' (fun A outer s H E => hbody A outer s H E f c') rfl (.inl la.1) (okN_d la.2).1 (okN_d la.2).2.1) (pg_name Sg.nd rfl (.inl lb.1) (.inl rfl)) rfl rfl rfl))
        (fun a' oe pn => pss_one (ps_asg (X := Z.suite a' ((a', oe) :: pn)) (pe_var rfl (.inl le.1) (okN_d le.2).1 (okN_d le.2).2.1) (pg_name Sg.nd rfl (.inl lc.1) (.inl rfl)) rfl rfl rfl))
    refine ⟨_, pss_cons st1 (pss_cons st2 (pss_one st3)), ?_⟩
    refine ⟨by decide, fun p0 n0 => ⟨p0, [.non, .non], rfl, .inl (.inl upd_same), rfl, .non, [.non], rfl, .non, [], rfl, rfl, ?_⟩⟩
    obtain ⟨R2, g2⟩ := R1.tupNew (ys := [.non, .non]) n0
    have S2 := S1.grow g2 R1
    rw [app_nil] at S2
    refine ⟨rfl, by rw [upd_ne (ne_of_none hco n0)]; exact hco, _, fun _ _ _ z => z, ia, sl, hh, R2, S2, .nil, ?_⟩
    have q : Want X.K ca ia H (vTold errs (ev sl hh)) Q fun c d H' => wE E c d σ H' := q
    have g12 := g1.trans (by rw [app_nil]; exact g2)
    cases e : ev sl hh with
    | bad => rw [e] at q; exact q
    | ok v h1 =>
      rw [e] at q
      intro ka H2 w g3 R3 rw_
      refine ⟨.non, rfl, w, rfl, (show 2 ≤ sizeLine by decide), fun p9 n9 => ?_⟩
      obtain ⟨R4, g4⟩ := R3.tupNew (ys := [.non, w]) n9
      have gg := (g12.trans (by rw [app_nil, app_nil]; exact g3)).trans (by rw [List.nil_append, List.nil_append]; exact g4)
      refine q _ _ _ gg ?_ ?_
      · simpa using R4
      · have z := rw_.grow g4 R3
        refine .tup upd_same (.cons .non (.cons ?_ .nil))
        simpa using z
    | exc cc v h1 =>
      rw [e] at q
      obtain ⟨hc, q⟩ := chk_ok q
      intro ka H2 d w g3 R3 hd rw_
      refine ⟨?_, ca cc, d, rfl, rfl, fun a' na => ?_⟩
      · have z := hEx cc hc
        rw [← hca] at z
        exact z
      · refine ⟨.ref a', rfl, ?_⟩
        obtain ⟨R4, g4⟩ := R3.anyNew (u := exw a' (ca cc) d) na
        refine ⟨.ref a', rfl, .non, rfl, (show 2 ≤ sizeLine by decide), fun p9 n9 => ?_⟩
        obtain ⟨R5, g5⟩ := R4.tupNew (ys := [.ref a', .non]) n9
        have gg := ((g12.trans (by rw [app_nil, app_nil]; exact g3)).trans (by rw [List.nil_append, List.nil_append]; exact g4)).trans (by rw [List.nil_append, List.nil_append, app_nil]; exact g5)
        have nd : d ∉ ia ++ ka := fun m => by
          obtain ⟨o, r⟩ := R3.mem m
          obtain ⟨u, e1, _, _, _, nx, _⟩ := r.kind
          rw [hd] at e1
          exact nx _ (Option.some.inj e1).symm
        have ne : d ≠ a' := ne_of_none hd na
        refine q _ _ _ gg ?_ ?_
        · simpa using R5
        · have z : RV X.K (ia ++ ka) (upd H2 a' (exw a' (ca cc) d)) (.err cc v) (.ref a') := by
            have z0 := rw_.grow g4 R3
            rw [app_nil] at z0
            refine .err (R3.fresh na) nd (.inr ?_) (.inr (by rw [upd_ne ne]; exact hd)) z0
            rw [upd_same, ← hca]
          have z2 := z.grow g5 R4
          rw [app_nil] at z2
          refine .tup upd_same (.cons ?_ (.cons .non .nil))
          simpa using z2
  refine wpAny_call (codeAny_mono rc fun r s2 hq => ?_)
  cases r with
  | error e =>
    obtain ⟨_, _, _, _, _, _, _, _, _, _, _, _, z⟩ := hq
    exact z.elim
  | ok fl =>
    cases fl with
    | ret u => exact I1.after hq
    | next => exact False.elim hq
    | brk => exact False.elim hq
    | cont => exact False.elim hq
end
end Mi

set_option Elab.async false
set_option linter.all false
set_option maxRecDepth 100000
set_option maxHeartbeats 2000000
/-! C9: f-strings by their runs. -/
namespace Mi
open PySem L2 PyProof.Rows
section
variable {X : Cx} {ca : CaT} {W : WS} {e : Expr} {pos : Pos} {ma : M Val}
theorem js_read {ev : IE → LS → LH → Res Val} : ∀ (is : List IE) (acc : Str) {st : L2.St} {H : Hp} {Q : VK}, tOf X.K ca W (jsR ev is acc) st H Q → tJs (is.map fun i => tOf X.K ca W (ev i)) acc st H fun out H1 => Q (.str out) H1
  | [], acc, st, H, Q, t => by
    obtain ⟨ia, sl, h, R, S, r, q⟩ := t
    exact Want.now q R (.str acc)
  | i :: is, acc, st, H, Q, t => by
    refine (tC.step (f := fun v sl h1 => match v with
      | .str y => chk (decide ((acc ++ y).length ≤ sizeLine)) (jsR ev is (acc ++ y) sl h1)
      | _ => .bad) t).mono fun x H1 ⟨v, t1⟩ => ?_
    obtain ⟨ia, sl, h, R, S, r, q⟩ := t1
    cases r with
    | cons ry _ =>
      cases ry with
      | str y =>
        obtain ⟨hc, q⟩ := chk_ok q
        exact ⟨y, rfl, of_decide_eq_true hc, js_read is (acc ++ y) ⟨ia, sl, h, R, S, .nil, q⟩⟩
      | _ => exact (show False from q).elim
theorem pj_of {f : Expr → Option IE} {ev : IE → LS → LH → Res Val} (hf : ∀ e ie, f e = some ie → PE X e (tOf X.K ca W (ev ie))) : ∀ {es : List Expr} {is : List IE}, mapX f es = some is → PJ X es (is.map fun i => tOf X.K ca W (ev i))
  | [], is, h => by
    cases h
    exact .nil
  | e :: es, is, h => by
    unfold mapX at h
    split at h
    · rename_i i js z1 z2 z3
      cases h
      exact .cons (hf _ _ z2) (pj_of hf z3)
    · cases h
/-- f'..' of two parts or more -/
theorem d_js {f : Expr → Option IE} {ev : IE → LS → LH → Res Val} (hf : ∀ e ie, f e = some ie → PE X e (tOf X.K ca W (ev ie))) {es : List Expr} {is : List IE} (h : mapX f es = some is) (h2 : 2 ≤ es.length) : PE X (.JoinedStr es pos) (tOf X.K ca W (jsR ev is Str.empty)) := by
  match es, h2, h with
  | e1 :: e2 :: rest, _, h => exact pe_imp (pe_joined (pj_of hf h)) fun st H Q t => js_read is Str.empty t
theorem d_fmt (he : PE X e (tOf X.K ca W ma)) : PE X (.FormattedValue e (-1) none pos) (tOf X.K ca W (fun sl h => (ma sl h).bind fun v h1 => vFmt v h1)) := by
  refine pe_imp (pe_fmt he) fun st H Q t => ?_
  refine (tC.step (f := fun v sl h1 => vFmt v h1) t).mono fun y H1 ⟨v, t1⟩ => ?_
  obtain ⟨ia, sl, h, R, S, r, q⟩ := t1
  cases r with
  | cons ry _ =>
    cases ry with
    | str x =>
      obtain ⟨hc, q⟩ := chk_ok q
      exact .inl ⟨x, rfl, of_decide_eq_true hc, q.now R (.str x)⟩
    | int i =>
      obtain ⟨hc, q⟩ := chk_ok q
      exact .inr ⟨i, rfl, of_decide_eq_true hc, q.now R (.str _)⟩
    | _ => exact (show False from q).elim
end
end Mi

set_option Elab.async false
set_option linter.all false
set_option maxRecDepth 100000
set_option maxHeartbeats 2000000
/-! CA: repr of an instance that has its own __repr__. -/
namespace Mi
open PySem L2 PyProof.Rows SlX
theorem want_str {K : PySem.W.Frag} {ca : CaT} {ia : List Addr} {H : Hp} {x : Res Val} {Q : VK} {E : XK} (q : Want K ca ia H (onlyStr x) Q E) : Want K ca ia H x (fun y H' => ∃ z, y = .str z ∧ Q y H') fun _ _ _ => False := by
  unfold onlyStr at q
  split at q
  · intro ka H' w g R r
    cases r
    exact ⟨_, rfl, q ka H' _ g R (.str _)⟩
  · exact (show False from q).elim
section
variable {X : Cx} {ca : CaT} {G : Prg} {r : EV} {d : Nat} {W : WS} {e : Expr} {pos p : Pos} {ma : M Val}
theorem cv_reprO (hM : ∀ d' c I k, d = d' + 2 → G.cls.lookup c = some I → I.meths.lookup ("__repr__" : Str) = some k → ∃ g fd ps D, Meth X.K (ca c) "__repr__" g ∧ FnG X.prog X.w X.K X.mg X.base (L2.CX X.prog X.w) (d' + 1) g fd ps (spC X.K ca (r.c d' k)) ∧ G.defs[k]? = some D ∧ DflK X.K fd ps D.dfl)
    (hgd : X.A.guards = some []) (hr : Room d X.A) (hu : X.A.units + 200 < cLine) (hs : ∃ o, X.K.lookup sysModules = some o ∧ o.cls = .type "dict") :
    CallR X (.builtin "repr") (fun xs H Q => ∃ (ia : List Addr) (h : LH) (v : Val) (x : V) (E : XK), xs = [x] ∧ Rep X.K ca ia H h ∧ RV X.K ia H v x ∧ Want X.K ca ia H (stRpr G r d v h) Q E) := by
  intro pins s st H xs us Q I rr ⟨ia, h, v, x, E, ex, R, r1, q⟩
  unfold stRpr at q
  cases eo : mthO G v "__repr__" h with
  | none => rw [eo] at q; exact cv_repr (ca := ca) hgd hu hs pins s st H xs us Q I rr ⟨ia, h, v, x, E, ex, R, r1, q⟩
  | some k =>
    rw [eo] at q
    subst ex
    match d, hM, hr, q with
    | 0, _, _, q => exact (show False from q).elim
    | 1, _, _, q => exact (show False from q).elim
    | d' + 2, hM, hr, q =>
      have q := want_str (show Want X.K ca ia H (onlyStr (r.c d' k [v] h)) Q E from q)
      cases rr with
      | cons rx rr =>
        cases rr
        obtain ⟨mm, hF⟩ := I.fr
        obtain ⟨c, Ic, n, fs, a, dx, vs, hI, hm, hv, hy, hins, hsl⟩ := mth_at R r1 eo
        obtain ⟨g1, fd, ps, D, M1, F1, hD, hdf⟩ := hM d' c Ic _ rfl hI hm
        subst hy
        cases (show _ = Value.ref a from rx)
        obtain ⟨ox, od, nda, J, _⟩ := ist_inst I hsl
        obtain ⟨ds, dvs, hb, hd, hv⟩ := hdf D.dfl.length
        have hv0 : dvs = [] := by
          have := (hv [] (fun _ => none)).len
          rw [List.drop_length] at this
          exact List.length_eq_zero_iff.mp this.symm
        subst hv0
        cases hd
        have hsp : spC X.K ca (r.c d' k) [.ref a] H (fun y H' => ∃ z, y = .str z ∧ Q y H') fun _ _ _ => False := ⟨ia, h, [v], R, .cons r1 .nil, q⟩
        have hl : ([Value.ref a] : List Value).length = ps.length := F1.len _ _ _ _ hsp
        have hb' := hb s [.ref a] I.kIn (by rw [List.append_nil]; exact hl)
        rw [List.append_nil] at hb'
        have hun : X.A.in1.units < cLine := by
          have := hr.in1.un
          omega
        refine PySem.W.repr_K hun hF I.ok.mod.kin J M1.at_ M1.fn (wpAny_call (codeAny_mono (F1.run X.A.in1 X.stack s H ⟨[.ref a], []⟩ [.ref a] [.ref a] _ _ (gd_in1 hgd) hr.in1 I.env0.in1 hb' (.cons rfl .nil) hsp) fun r s' hq => ?_))
        cases r with
        | error e => exact (cx_no hq).elim
        | ok fl =>
          cases fl with
          | ret u =>
            obtain ⟨y, H', I2, ry, z, ez, qz⟩ := I.after hq
            subst ez
            obtain ⟨t, rfl⟩ := ry
            exact ⟨.str z, H', I2, ⟨t, rfl⟩, qz⟩
          | next => exact False.elim hq
          | brk => exact False.elim hq
          | cont => exact False.elim hq
theorem d_rprO (hM : ∀ d' c I k, d = d' + 2 → G.cls.lookup c = some I → I.meths.lookup ("__repr__" : Str) = some k → ∃ g fd ps D, Meth X.K (ca c) "__repr__" g ∧ FnG X.prog X.w X.K X.mg X.base (L2.CX X.prog X.w) (d' + 1) g fd ps (spC X.K ca (r.c d' k)) ∧ G.defs[k]? = some D ∧ DflK X.K fd ps D.dfl)
    (hgd : X.A.guards = some []) (hr : Room d X.A) (hu : X.A.units + 200 < cLine) (hs : ∃ o, X.K.lookup sysModules = some o ∧ o.cls = .type "dict") (hg : Gl X "repr") (hm : X.mg "repr" = none) (hst : noStar e = true) (he : PE X e (tOf X.K ca W ma)) :
    PE X (.Call (.Name "repr" p) [e] [] pos) (tOf X.K ca W (fun sl h => (ma sl h).bind fun v h1 => stRpr G r d v h1)) := by
  have ha : PA X [e] (tCons (tOf X.K ca W ma) tNil) := pa_cons he pa_nil (star_cons hst)
  refine pe_imp (pe_callB (cv_reprO (ca := ca) hM hgd hr hu hs) hg hm (by decide +kernel : bootBuiltins "repr" = some (.builtin "repr")) ha (by decide) (by decide) (star_cons hst) rfl) fun st H Q t => ?_
  refine (tC.step (f := fun v sl h1 => stRpr G r d v h1) t).mono fun y H1 ⟨v, t1⟩ => ?_
  obtain ⟨ia, sl, h, R, S, rr, q⟩ := t1
  cases rr with
  | cons ry _ => exact ⟨ia, h, v, y, _, rfl, R, ry, q⟩
end
end Mi

set_option Elab.async false
set_option linter.all false
set_option maxRecDepth 100000
set_option maxHeartbeats 2000000
/-! CB: C.m(..), m a staticmethod of the class C. -/
namespace Mi
open PySem L2 PyProof.Rows
/-- the staticmethod m of the class at C: the def at f -/
structure StK (K : PySem.W.Frag) (C : Addr) (m : Str) (f : Addr) : Prop where
  rd : PySem.W.readsIn K C (.type "type") = true
  ga : PySem.W.specialIn K (.ref C) "__getattribute__" = some (some (.builtin "type.__getattribute__"))
  at_ : ∃ p rest, PySem.W.findCls K (.ref C) (.type "type") m = some (.get (.builtin "staticmethod.__get__") (.ref p) .none (.ref C)) ∧ PySem.W.recIn K p "staticmethod" = some (.ref f :: rest)
  kp : PySem.W.keepIn K (.ref f) = true
section
variable {X : Cx} {ca : CaT} {E : XK} {C f : Addr} {m x : Str} {es : List Expr} {p ap cp : Pos}
theorem st_get {A : Around} {E : Value → Shared → Prop} {pins : List (Addr × Obj)} {st : L2.St} {H : Hp} {s : Shared} {pl : Sem Bool} {Q : Value × List Value → Shared → Prop} (I : Inv X pins st H s) (k : StK X.K C m f) (h : ∀ s', Inv X pins st H s' → Q (.ref f, []) s') :
    wpAny (model X.prog X.w) A (getMethod (.ref C) m pl) Q E s := by
  obtain ⟨q, rest, h1, h2⟩ := k.at_
  refine PySem.W.method_cls I.kIn k.ga (PySem.W.cls_bind I.kIn k.rd h1 ?_)
  refine wpAny_call (PySem.W.sm_get (s := { s with toks := s.toks + 1 }) I.kIn h2 (PySem.W.handed_on rfl ?_))
  exact h _ (I.tok _)
theorem d_sta {k : Nat} {fd : FuncData} {ps : List Str} {fr : List Val → LH → Res Val} {ml : M (List Val)} (S : StK X.K C m f) (F : FnG X.prog X.w X.K X.mg X.base (L2.CX X.prog X.w) k f fd ps (spC X.K ca fr)) (hgd : X.A.guards = some []) (hr : Room k X.A) (hg : Gl X x) (hm : X.mg x = some (.ref C))
    (hb : Binds X.K fd ps []) (tk : Takes X (wE E)) (hn : okN x = true) (hl : (ap.endLine == cp.line) = true) (hne : es ≠ []) (hst : ∀ y ∈ es, noStar y = true) (hlt : es.length < 29) (ha : PA X es (tOfL X.K ca (wE E) ml)) :
    PE X (.Call (.Attribute (.Name x p) m ap) es [] cp) (tOf X.K ca (wE E) (fun sl h => (ml sl h).bind fun vs h1 => fr vs h1)) := by
  have hx : Passes (L2.CX X.prog X.w) X E := passes_call tk fun _ _ _ _ z => z
  have key : ∀ st H Q, tOf X.K ca (wE E) (fun sl h => (ml sl h).bind fun vs h1 => fr vs h1) st H Q → tOfL X.K ca (wE E) ml st H fun ys H1 => spC X.K ca fr ys H1 Q E := fun st H Q t =>
    tCL.mono (lst_call t) fun ys H1 ⟨ia, h, vs, R, r, q⟩ => ⟨ia, h, vs, R, r, q⟩
  have hv : PE X (.Name x p) (L2.tC (.ref C)) := pe_glob hg hm rfl (okN_d hn).1
  cases es with
  | nil => exact absurd rfl hne
  | cons e es =>
    refine ⟨fun pins s st H Q I h => ?_⟩
    have h := key st H Q h
    refine PySem.W.methodCall_KW (pl := L2.plainOf (.Name x p) X.env) (thn (hv.run pins s st H (fun y H1 => y = .ref C ∧ H1 = H) I ⟨rfl, rfl⟩) fun u s1 ⟨y, H1, I1, ry, ey, eH⟩ => ?_) (mcl_eval (o := .Name x p) rfl hl hst hlt)
    subst ey eH
    obtain rfl : u = Value.ref C := ry
    refine st_get I1 S fun s2 I2 => ?_
    refine PySem.W.callWith_K (first := []) (h₀ := X.base) I.ok.mod.kin S.kp (thn (ha.run cp pins s2 st _ _ I2 h) fun us s3 ⟨vs, H2, I3, r, q2⟩ => ⟨I3.kIn, ?_⟩) (star_cons (hst e List.mem_cons_self)) (star_none fun y hy => hst y (List.mem_cons_of_mem _ hy))
    exact run_fnG F hgd hr hb hx I3 r q2
end
end Mi

set_option Elab.async false
set_option linter.all false
set_option maxRecDepth 100000
set_option maxHeartbeats 2000000
/-! D16: expressions, by their run. -/
namespace Mi
open PySem L2 PyProof.Rows
/-- what the written part says of the classes -/
structure COk (P : Program) (K : PySem.W.Frag) (mg : Str → Option Value) (g : Glo) (G : Prg) : Prop where
  err : ∀ x, g.lookup x = some .err → mg x = some (.ref (He.ga K x)) ∧ G.errs.contains x = true
  errs : ∀ c, G.errs.contains c = true → ErrK P K (He.ga K c)
  isi : ∀ t c b, isiL G.isiT t c = some b → PySem.W.kitOne K (clV K t) (clV K c) = some b
  sysm : ∃ o, K.lookup sysModules = some o ∧ o.cls = .type "dict"
  cls : ∀ c I, G.cls.lookup c = some I → ClsK K (He.ga K c) (dnI I) I
  ops : ∀ c I, G.cls.lookup c = some I → OpsK K (He.ga K c)
  tld : ∀ x scs, g.lookup x = some (.tld scs) → TldK K mg x G.errs
  clsG : ∀ x, g.lookup x = some .cls → mg x = some (.ref (He.ga K x)) ∧ ∃ I, G.cls.lookup x = some I
theorem dnOf_at {G : Prg} {c : Str} {I : ClsI} (e : G.cls.lookup c = some I) : dnOf G.cls c = dnI I := by
  unfold dnOf
  rw [e]
  rfl
theorem COk.slI {P : Program} {K : PySem.W.Frag} {mg : Str → Option Value} {g : Glo} {G : Prg} (c : COk P K mg g G) (x : Str) (h : G.isC x = true) : ClOk K (He.ga K x) (dnOf G.cls x) ∧ SlX.SIsi K (He.ga K x) := by
  obtain ⟨I, e⟩ := Option.isSome_iff_exists.mp h
  rw [dnOf_at e]
  exact ⟨(c.cls x I e).sc, (c.cls x I e).si⟩
/-- the running def's table -/
def LmK (X : Cx) (ca : CaT) : Prop := ∃ c P, LamX.TabB X.base X.mg c P ∧ X.env.code = .ref c ∧ (P, X.env.qual ++ "<lambda>") ∈ ca.T ∧ ∀ p ∈ ca.T, p.1 = P → p.2 = X.env.qual ++ "<lambda>"
/-- the context that the runs need -/
structure Cok (P : Program) (w : World) (K : PySem.W.Frag) (mg : Str → Option Value) (base : Heap) (g : Glo) (G : Prg) (ca : CaT) (X : Cx) (N : List Str) (sc scL : Scope) (d : Nat) : Prop where
  tg : TgOk X N scL
  scope : X.env.scope = sc
  kind : sc.kind = .function
  room : Room d X.A
  gok : GOk g X.K X.mg
  gd : X.A.guards = some []
  cok : COk X.prog X.K X.mg g G
  hP : X.prog = P
  hw : X.w = w
  hK : X.K = K
  hm : X.mg = mg
  hb : X.base = base
  lm : tabS g sc = true → LmK X ca
section
variable (P : Program) (w : World) (K : PySem.W.Frag) (mg : Str → Option Value) (base : Heap) (g : Glo) (G : Prg) (ca : CaT) (n : Nat)
/-- the defs, at level n -/
def FnsOk : Prop := (∀ (x : Str) (k : Nat), g.lookup x = some (.fn k) → ∃ f fd ps, mg x = some (.ref f) ∧ PySem.W.keepIn K (.ref f) = true ∧ Binds K fd ps [] ∧ ∀ d, FnG P w K mg base (L2.CX P w) (d + 1) f fd ps (spC K ca ((run G n).c d k))) ∧
  ∀ (x c m : Str) (k : Nat), g.lookup x = some (.st c m k) → mg c = some (.ref (He.ga K c)) ∧ ∃ f fd ps, StK K (He.ga K c) m f ∧ Binds K fd ps [] ∧ ∀ d, FnG P w K mg base (L2.CX P w) (d + 1) f fd ps (spC K ca ((run G n).c d k))
theorem statO_at {sc : Scope} {o : Expr} {x : Str} {k : Nat} (h : statO g sc o x = some k) : ∃ y p z, o = .Name y p ∧ okN y = true ∧ gloB sc y = true ∧ g.lookup z = some (.st y x k) := by
  unfold statO at h
  split at h
  · split at h
    · rename_i hb hl
      split at h
      · rename_i hc
        cases h
        obtain ⟨h1, h2⟩ := Bool.and_eq_true_iff.mp hb
        exact ⟨_, _, _, rfl, h1, h2, by rw [hl, hc.1, hc.2]⟩
      · cases h
    · cases h
  · cases h
/-- the methods, properties, __init__s of the classes, at level n -/
def MthsOk : Prop := ∀ c I, G.cls.lookup c = some I →
  (∀ m k, I.meths.lookup m = some k → ∃ f fd ps D, Meth K (ca c) m f ∧ (∀ d, FnG P w K mg base (L2.CX P w) (d + 1) f fd ps (spC K ca ((run G n).c d k))) ∧ G.defs[k]? = some D ∧ DflK K fd ps D.dfl) ∧
  (∀ a k, I.props.lookup a = some k → ∃ f fd ps, PropK K (ca c) a f ∧ (∀ d, FnG P w K mg base (L2.CX P w) (d + 1) f fd ps (spC K ca ((run G n).c d k))) ∧ Binds K fd ps []) ∧
  ∃ f fd ps D, L2.Mk K (ca c) f ∧ (∀ d, FnG P w K mg base (L2.CX P w) (d + 1) f fd ps (spC K ca ((run G n).c d I.init))) ∧ G.defs[I.init]? = some D ∧ DflK K fd ps D.dfl
def EOk : Prop := ∀ (X : Cx) (N : List Str) (sc scL : Scope) (d : Nat) (E : XK) (m : Nat) (e : Expr) (ie : IE), Cok P w K mg base g G ca X N sc scL d → Takes X (wE E) → trE g N m sc e = some ie → PE X e (tOf K ca (wE E) ((run G n).e d ie))
def TOk : Prop := ∀ (X : Cx) (N : List Str) (sc scL : Scope) (d : Nat) (E : XK) (m : Nat) (e : Expr) (ie : IE), Cok P w K mg base g G ca X N sc scL d → Takes X (wE E) → trE g N m sc e = some ie → PT X e (tOfB K ca (wE E) ((run G n).t d ie))
end
theorem lvk {P : Program} {w : World} {mg : Str → Option Value} {base : Heap} {g : Glo} {G : Prg} {ca : CaT} {n d : Nat} {X : Cx} (hca : ca.fn = He.ga X.K) (hdn : ca.dn = dnOf G.cls) (cok : COk X.prog X.K X.mg g G) (Mt : MthsOk X.prog X.w X.K X.mg X.base G ca n) : LvK X ca G (run G n) d :=
  ⟨fun c I z => by rw [hca, hdn, dnOf_at z]; exact cok.cls c I z, fun c I z => by rw [hca]; exact cok.ops c I z, fun d' c I m k _ h1 h2 => let ⟨f, fd, ps, D, p1, p2, p3, p4⟩ := (Mt c I h1).1 m k h2; ⟨f, fd, ps, D, p1, p2 d', p3, p4⟩, fun d' c I m k _ h1 h2 => let ⟨f, fd, ps, D, p1, p2, p3, p4⟩ := (Mt c I h1).1 m k h2; ⟨f, fd, ps, D, p1, p2 d', p3, p4⟩, fun c I m k h1 h2 => let ⟨f, _, _, _, p1, _⟩ := (Mt c I h1).1 m k h2; ⟨f, p1⟩⟩
theorem biOf_boot {x : Str} {n : Nat} {b : Bi} (h : biOf x n = some b) : bootBuiltins x = some (biV b) ∧ 0 < n := by
  unfold biOf at h
  split at h
  · rename_i q; cases h; rw [q.1]; exact ⟨by decide +kernel, by omega⟩
  split at h
  · rename_i q; cases h; rw [q.1]; exact ⟨by decide +kernel, by omega⟩
  split at h
  · rename_i q; cases h; rw [q.1]; exact ⟨by decide +kernel, by omega⟩
  split at h
  · rename_i q; cases h; rw [q.1]; exact ⟨by decide +kernel, by omega⟩
  split at h
  · rename_i q; cases h; rw [q.1]; exact ⟨by decide +kernel, by omega⟩
  split at h
  · rename_i q; cases h; rw [q.1]; exact ⟨by decide +kernel, by omega⟩
  split at h
  · rename_i q; cases h; rw [q.1]; exact ⟨by decide +kernel, by omega⟩
  split at h
  · rename_i q; cases h; rw [q.1]; exact ⟨by decide +kernel, by omega⟩
  split at h
  · rename_i q; cases h; rw [q.1]; exact ⟨by decide +kernel, by omega⟩
  split at h
  · rename_i q; cases h; rw [q.1]; exact ⟨by decide +kernel, by omega⟩
  split at h
  · rename_i q; cases h; rw [q.1]; exact ⟨by decide +kernel, by omega⟩
  · cases h
theorem tyName_boot {y : Str} {n : String} (h : tyName y = some n) : bootBuiltins y = some (.type n) := by
  unfold tyName at h
  split at h
  · rename_i q; cases h; rw [q]; decide +kernel
  split at h
  · rename_i q; cases h; rw [q]; decide +kernel
  split at h
  · rename_i q; cases h; rw [q]; decide +kernel
  split at h
  · rename_i q; cases h; rw [q]; decide +kernel
  split at h
  · rename_i q; cases h; rw [q]; decide +kernel
  split at h
  · rename_i q; cases h; rw [q]; decide +kernel
  split at h
  · rename_i q; cases h; rw [q]; decide +kernel
  · cases h
theorem cl_pe {X : Cx} {g : Glo} {G : Prg} {sc : Scope} (hs : X.env.scope = sc) (gok : GOk g X.K X.mg) (cok : COk X.prog X.K X.mg g G) {ce : Expr} {c : ClR} (h : clOf g sc ce = some c) : PE X ce (L2.tC (clW X.K c)) ∧ noStar ce = true := by
  unfold clOf at h
  split at h
  · split at h
    · rename_i y p hn
      obtain ⟨hn, hg⟩ := Bool.and_eq_true_iff.mp hn
      split at h
      · rename_i hl
        cases h
        exact ⟨pe_glob (glob_of hs hg) (cok.err _ hl).1 rfl (okN_d hn).1, rfl⟩
      · rename_i hl
        cases h
        exact ⟨pe_glob (glob_of hs hg) (cok.clsG _ hl).1 rfl (okN_d hn).1, rfl⟩
      · rename_i hl
        obtain ⟨n, e1, e2⟩ := Option.map_eq_some_iff.mp h
        subst e2
        exact ⟨pe_bltn (glob_of hs hg) (gok.blt _ hl) (tyName_boot e1) rfl (okN_d hn).2.2 (okN_d hn).1, rfl⟩
      · cases h
    · cases h
  · cases h
theorem mtOf_name {x : Str} {n : Nat} {b : Mt} (h : mtOf x n = some b) : x = mtName b ∧ n = mtN b := by
  unfold mtOf at h
  split at h
  · rename_i q; cases h; exact q
  split at h
  · rename_i q; cases h; exact q
  split at h
  · rename_i q; cases h; exact q
  split at h
  · rename_i q; cases h; exact q
  split at h
  · rename_i q; cases h; exact q
  split at h
  · rename_i q; cases h; exact q
  split at h
  · rename_i q; cases h; exact q
  split at h
  · rename_i q; cases h; exact q
  · cases h
theorem e_var {X : Cx} {ca : CaT} {W : WS} {i : Nat} {x : Str} {p : Pos} (hN : X.N[i]? = some x) (hv : Vis X.env.scope x) (hn : okN x = true) : PE X (.Name x p) (tOf X.K ca W (fun sl h => match sl[i]? with
    | some (some v) => .ok v h
    | _ => .bad)) := by
  refine pe_imp (pe_var hN hv (okN_d hn).1 (okN_d hn).2.1) fun st H Q t => ?_
  obtain ⟨ia, sl, h, R, S, r, q⟩ := t
  dsimp only at q
  split at q
  · rename_i v ev
    obtain ⟨y, e1, ry⟩ := S.at_ i v ev
    exact ⟨y, e1, q.now R ry⟩
  · exact (show False from q).elim
theorem e_cst {X : Cx} {ca : CaT} {W : WS} {e : Expr} {v : Val} {y : V} (h : PE X e (L2.tC y)) (r : ∀ ia H, RV X.K ia H v y) : PE X e (tOf X.K ca W (fun sl h => chk (noLoc v) (.ok v h))) := by
  refine pe_imp h fun st H Q t => ?_
  obtain ⟨ia, sl, h, R, S, _, q⟩ := t
  exact (chk_ok q).2.now R (r ia H)
/-- within a comprehension's block -/
theorem Cok.blk {P : Program} {w : World} {K : PySem.W.Frag} {mg : Str → Option Value} {base : Heap} {g : Glo} {G : Prg} {ca : CaT} {X : Cx} {N : List Str} {sc scL scope : Scope} {d : Nat} (c : Cok P w K mg base g G ca X N sc scL d) {own : List (Str × Nat)} (ok : BlkOk N sc scope own) (ht : tabS g (relS scope sc) = false)
    (s : Shared) (H : Hp) (C : Addr) (cl : List (Str × Addr)) (fp : List Addr) : Cok P w K mg base g G ca (X.blk s H scope (compEnvC scope cl C X.env) fp) N (relS scope sc) scope d := by
  refine ⟨⟨c.tg.n, c.tg.nd, c.tg.calm, fun x hx => ?_⟩, ?_, ok.kind, c.room, c.gok, c.gd, c.cok, c.hP, c.hw, c.hK, c.hm, c.hb, fun z => by rw [ht] at z; cases z⟩
  · unfold locB at hx
    split at hx
    · rename_i e
      have q := lookup_relS_keep (sc := X.env.scope) (k := .local) (by decide) e
      exact ⟨.inl q, .inr q⟩
    · rename_i e
      have q := lookup_relS_keep (sc := X.env.scope) (k := .cell) (by decide) e
      refine ⟨.inr q, .inl ?_⟩
      show (scope.names.lookup x == some .cell) = true
      rw [e]
      rfl
    · cases hx
  · rw [← c.scope]
    rfl
theorem takes_blk {X : Cx} {s : Shared} {H : Hp} {scope : Scope} {env : Env} {fp : List Addr} : Takes (X.blk s H scope env fp) W0 := takes0
section
variable {P : Program} {w : World} {K : PySem.W.Frag} {mg : Str → Option Value} {base : Heap} {g : Glo} {G : Prg} {ca : CaT} {n : Nat}
theorem e_lc (hE : ∀ m, m ≤ n → EOk P w K mg base g G ca m) (hT : ∀ m, m ≤ n → TOk P w K mg base g G ca m) {X : Cx} {N : List Str} {sc scL scope : Scope} {d m : Nat} {E : XK} (c : Cok P w K mg base g G ca X N sc scL d) (tk : Takes X (wE E))
    {tg iter elt : Expr} {ifs : List Expr} {k : Nat} {es is : List IE} {t : ITg} {i : IE}
    (h1 : (blkC N sc scope (ownOf N scope.names) && noSet iter && decide (ifs.length ≤ 1) && !tabS g (relS scope sc)) = true) (h2 : trI g sc (trE g N m sc) tg iter = some (k, es)) (h3 : trG N scope m tg = some t) (h4 : mapX (trE g N m (relS scope sc)) ifs = some is)
    (h5 : trE g N m (relS scope sc) elt = some i) (h6 : (slots t).all (fun j => ((ownOf N scope.names).map (·.2)).contains j) = true) :
    BlkOk X.N X.env.scope scope (ownOf N scope.names) ∧ noSet iter = true ∧ (∀ i ∈ slots t, i ∈ (ownOf N scope.names).map (·.2)) ∧ PI X tg iter (tSrc K ca (wE E) (srcM k (evL ((run G n).e d) es))) ∧
    (∀ (s : Shared) (H : Hp) (C : Addr) (cl : List (Str × Addr)) (fp : List Addr), PG (X.blk s H scope (compEnvC scope cl C X.env) fp) tg (gB K ca t)) ∧
    (∀ m, m ≤ n → ∀ (s : Shared) (H : Hp) (C : Addr) (cl : List (Str × Addr)) (fp : List Addr), PTs (X.blk s H scope (compEnvC scope cl C X.env) fp) ifs (tOfB K ca W0 (tsIf ((run G m).t d) is))) ∧
    (∀ m, m ≤ n → ∀ (s : Shared) (H : Hp) (C : Addr) (cl : List (Str × Addr)) (fp : List Addr), PE (X.blk s H scope (compEnvC scope cl C X.env) fp) elt (tOf K ca W0 ((run G m).e d i))) := by
  simp only [Bool.and_eq_true, decide_eq_true_eq, Bool.not_eq_true'] at h1
  obtain ⟨⟨⟨hb, hset⟩, hl⟩, htb⟩ := h1
  have ok := blkOk_by hb
  refine ⟨by rw [c.tg.n, c.scope]; exact ok, hset, fun i hi => ?_, ?_, fun s H C cl fp => ?_, fun m' hm s H C cl fp => ?_, fun m' hm s H C cl fp => ?_⟩
  · have := List.all_eq_true.mp h6 i hi
    simpa using this
  · have q := d_src (ca := ca) (W := wE E) (ev := (run G n).e d) c.scope c.gok (fun e ie he => by rw [c.hK]; exact hE n (Nat.le_refl n) X N sc scL d E m e ie c tk he) h2
    rw [c.hK] at q
    exact q
  · have cb := c.blk ok htb s H C cl fp
    have q := d_tg (ca := ca) cb.tg h3
    rw [show (X.blk s H scope (compEnvC scope cl C X.env) fp).K = K from c.hK] at q
    exact q
  · have cb := c.blk ok htb s H C cl fp
    match ifs, is, h4, hl with
    | [], is, h4, _ =>
      cases h4
      refine ⟨fun pins s' st H' Q I t => (pts_nil (X := X.blk s H scope (compEnvC scope cl C X.env) fp)).run pins s' st H' Q I ?_⟩
      obtain ⟨ia, sl, h, R, S, r, q⟩ := t
      exact WantB.now q R
    | [e], is, h4, _ =>
      unfold mapX at h4
      split at h4
      · rename_i j js e1 e2 e3
        cases h4
        cases e3
        have q := hT m' hm _ N _ _ d (fun _ _ _ => False) m e j cb takes_blk e2
        exact pts_one q
      · cases h4
    | _ :: _ :: _, _, _, hl => simp at hl
  · exact hE m' hm _ N _ _ d (fun _ _ _ => False) m elt i (c.blk ok htb s H C cl fp) takes_blk h5
end
end Mi

set_option Elab.async false
set_option linter.all false
set_option maxRecDepth 100000
set_option maxHeartbeats 4000000
/-! D17: an expression's step. -/
namespace Mi
open PySem L2 PyProof.Rows
section
variable {P : Program} {w : World} {K : PySem.W.Frag} {mg : Str → Option Value} {base : Heap} {g : Glo} {G : Prg} {ca : CaT} {n : Nat}
theorem lrg_of {x : Str} {args : List Expr} {sc : Scope} {a : Expr} (h : (if x = ("list" : Str) then (match args with
            | [.Call (.Name y _) [a] [] _] => if y = ("range" : Str) ∧ isBlt g sc y = true ∧ noStar a = true then some a else none
            | _ => none) else none) = some a) : x = "list" ∧ ∃ y p p2, args = [.Call (.Name y p) [a] [] p2] ∧ y = "range" ∧ isBlt g sc y = true ∧ noStar a = true := by
  split at h
  · rename_i hx
    split at h
    · split at h
      · rename_i q
        cases h
        exact ⟨hx, _, _, _, rfl, q⟩
      · cases h
    · cases h
  · cases h
theorem lst_of {x : Str} {args : List Expr} {sc : Scope} {a : Expr} (h : (if x = ("len" : Str) then (match args with
            | [.Call (.Name y _) [a] [] _] => if y = ("set" : Str) ∧ isBlt g sc y = true ∧ noStar a = true then some a else none
            | _ => none) else none) = some a) : x = "len" ∧ ∃ y p p2, args = [.Call (.Name y p) [a] [] p2] ∧ y = "set" ∧ isBlt g sc y = true ∧ noStar a = true := by
  split at h
  · rename_i hx
    split at h
    · split at h
      · rename_i q
        cases h
        exact ⟨hx, _, _, _, rfl, q⟩
      · cases h
    · cases h
  · cases h
theorem lset_one {X : Cx} {W : WS} {ev : IE → LS → LH → Res Val} {i : IE} {o : Op} {st : L2.St} {H : Hp} {Q : VK} (t : tOf X.K ca W (fun sl h => (evL ev [i] sl h).bind fun vs h1 => vOp o vs h1) st H Q) : tOf X.K ca W (fun sl h => (ev i sl h).bind fun v h1 => vOp o [v] h1) st H Q := by
  obtain ⟨ia, sl, h, R, S, r, q⟩ := t
  refine ⟨ia, sl, h, R, S, r, ?_⟩
  have e : evL ev [i] sl h = (ev i sl h).bind fun v h1 => .ok [v] h1 := rfl
  dsimp only at q
  rw [e] at q
  show Want X.K ca ia H ((ev i sl h).bind fun v h1 => vOp o [v] h1) Q _
  cases e2 : ev i sl h with
  | bad => rw [e2] at q; exact q
  | exc c v h' => rw [e2] at q; exact q
  | ok v h1 => rw [e2] at q; exact q
theorem e_step (hca : ca.fn = He.ga K) (hdn : ca.dn = dnOf G.cls) (hE : ∀ m, m ≤ n → EOk P w K mg base g G ca m) (hT : ∀ m, m ≤ n → TOk P w K mg base g G ca m) (F : FnsOk P w K mg base g G ca n) (Mt : MthsOk P w K mg base G ca n) : EOk P w K mg base g G ca (n + 1) := by
  intro X N sc scL d E m e ie c tk h
  have hu := c.room.un
  obtain ⟨tg, hsc, kind, room, gok, gd, cok, rfl, rfl, rfl, rfl, rfl, lm⟩ := c
  have c : Cok X.prog X.w X.K X.mg X.base g G ca X N sc scL d := ⟨tg, hsc, kind, room, gok, gd, cok, rfl, rfl, rfl, rfl, rfl, lm⟩
  have hN := tg.n
  have hC : ∀ c I, G.cls.lookup c = some I → ClsK X.K (ca c) (ca.dn c) I := fun c I z => by rw [hca, hdn, dnOf_at z]; exact cok.cls c I z
  have LV : LvK X ca G (run G n) d := lvk (P := X.prog) (w := X.w) (mg := X.mg) (base := X.base) hca hdn cok Mt
  cases m with
  | zero => cases h
  | succ m =>
    have ih : ∀ e ie, trE g N m sc e = some ie → PE X e (tOf X.K ca (wE E) ((run G n).e d ie)) := fun e ie z => hE n (Nat.le_refl n) X N sc scL d E m e ie c tk z
    have iht : ∀ e ie, trE g N m sc e = some ie → PT X e (tOfB X.K ca (wE E) ((run G n).t d ie)) := fun e ie z => hT n (Nat.le_refl n) X N sc scL d E m e ie c tk z
    show PE X e (tOf X.K ca (wE E) (stE G (run G n) d ie))
    unfold trE at h
    split at h
    · split at h
      · cases h; exact e_cst pe_int fun _ _ => .int _
      · cases h; exact e_cst pe_str fun _ _ => .str _
      · cases h; exact e_cst pe_bl fun _ _ => .bl _
      · cases h; exact e_cst pe_non fun _ _ => .non
      · cases h
    · split at h
      · rename_i hn
        split at h
        · rename_i hv
          obtain ⟨i, e1, e2⟩ := Option.map_eq_some_iff.mp h
          subst e2
          exact e_var (by rw [hN]; exact idx_ok e1) (vis_of hsc hv) hn
        · split at h
          · rename_i hg
            split at h
            · rename_i v hl
              cases h
              obtain ⟨y, u, h1, h2, h3⟩ := gok.val _ _ hl
              exact e_cst (pe_glob (glob_of hsc hg) h1 h2 (okN_d hn).1) h3
            · cases h
          · cases h
      · cases h
    · split at h
      · rename_i i j h1 h2
        cases h
        exact d_binO LV tk gd room (ih _ _ h1) (ih _ _ h2)
      · cases h
    · obtain ⟨i, e1, e2⟩ := Option.map_eq_some_iff.mp h
      subst e2
      exact d_negO LV tk gd room (ih _ _ e1)
    · obtain ⟨i, e1, e2⟩ := Option.map_eq_some_iff.mp h
      subst e2
      exact d_nt (ih _ _ e1)
    · obtain ⟨i, e1, e2⟩ := Option.map_eq_some_iff.mp h
      subst e2
      exact d_an ih e1
    · obtain ⟨i, e1, e2⟩ := Option.map_eq_some_iff.mp h
      subst e2
      exact d_or ih e1
    · split at h
      · rename_i i j hm h1 h2
        cases h
        exact d_cmpO (by omega) hm LV tk gd room (ih _ _ h1) (ih _ _ h2)
      · cases h
    · split at h
      · rename_i i j k hm h1 h2 h3
        cases h
        exact d_chn (by omega) hm (ih _ _ h1) (ih _ _ h2) (ih _ _ h3)
      · cases h
    · split at h
      · rename_i i j k h1 h2 h3
        cases h
        exact d_ife (iht _ _ h1) (ih _ _ h2) (ih _ _ h3)
      · cases h
    · split at h
      · obtain ⟨is, e1, e2⟩ := Option.map_eq_some_iff.mp h
        subst e2
        exact d_tp (d_list ih e1)
      · obtain ⟨p, e1, e2⟩ := Option.map_eq_some_iff.mp h
        subst e2
        exact d_spl (d_mapS ih (bs := p.1) (is := p.2) e1)
    · split at h
      · obtain ⟨is, e1, e2⟩ := Option.map_eq_some_iff.mp h
        subst e2
        exact d_ls (d_list ih e1)
      · obtain ⟨p, e1, e2⟩ := Option.map_eq_some_iff.mp h
        subst e2
        exact d_splL (d_mapS ih (bs := p.1) (is := p.2) e1)
    · split at h
      · split at h
        · rename_i i l u h1 h2 h3
          cases h
          split at h2
          · cases h2
            split at h3
            · cases h3
              exact d_sl0 (ih _ _ h1)
            · obtain ⟨j, e1, e2⟩ := Option.map_eq_some_iff.mp h3
              subst e2
              exact d_sl2 (ih _ _ h1) (ih _ _ e1)
          · obtain ⟨j, e1, e2⟩ := Option.map_eq_some_iff.mp h2
            subst e2
            split at h3
            · cases h3
              exact d_sl1 (ih _ _ h1) (ih _ _ e1)
            · obtain ⟨j', e3, e4⟩ := Option.map_eq_some_iff.mp h3
              subst e4
              exact d_sl3 (ih _ _ h1) (ih _ _ e1) (ih _ _ e3)
        · cases h
      · split at h
        · rename_i i j hs h1 h2
          cases h
          exact d_ix (by omega) hs (ih _ _ h1) (ih _ _ h2)
        · cases h
    · rename_i x xp args cp
      split at h
      · rename_i hb
        obtain ⟨hn, hg⟩ := Bool.and_eq_true_iff.mp hb
        have hgl := glob_of hsc hg
        split at h
        · rename_i k hl
          obtain ⟨is, e1, e2⟩ := Option.map_eq_some_iff.mp h
          subst e2
          obtain ⟨f, fd, ps, hm, hk, hbi, hf⟩ := F.1 _ _ hl
          obtain ⟨hlen, hst⟩ := mapX_star e1
          cases d with
          | zero => exact ⟨fun pins s st H Q I t => by obtain ⟨_, _, _, _, _, _, q⟩ := t; exact (show False from q).elim⟩
          | succ d =>
            cases args with
            | nil =>
              cases e1
              exact pe_imp (d_cal0 (hf d) gd room hgl hm hk hbi tk hn) fun st H Q t => t
            | cons a as => exact d_cal (hf d) gd room hgl hm hk hbi tk hn (by simp) hst (d_list ih e1)
        · rename_i hl
          split at h
          · split at h
            · rename_i a _ i hst e1
              cases h
              obtain ⟨h1, h2⟩ := cok.err _ hl
              exact d_mkE (cok.errs _ h2) (room.mono (Nat.zero_le _)) hgl h1 hst hn (ih _ _ e1)
            · cases h
          · cases h
        · rename_i hl
          obtain ⟨is, e1, e2⟩ := Option.map_eq_some_iff.mp h
          subst e2
          obtain ⟨hm, I, hI⟩ := cok.clsG _ hl
          obtain ⟨hlen, hst⟩ := mapX_star e1
          match d, room, c with
          | 0, _, _ => exact ⟨fun pins s st H Q I t => by obtain ⟨_, _, _, _, _, _, q⟩ := t; exact (show False from q).elim⟩
          | 1, _, _ => exact ⟨fun pins s st H Q I t => by obtain ⟨_, _, _, _, _, _, q⟩ := t; exact (show False from q).elim⟩
          | d' + 2, room, c =>
            have ih2 : ∀ e ie, trE g N m sc e = some ie → PE X e (tOf X.K ca (wE E) ((run G n).e (d' + 2) ie)) := fun e ie z => hE n (Nat.le_refl n) X N sc scL (d' + 2) E m e ie c tk z
            obtain ⟨_, _, f, fd, ps, D, M, Fi, hD, hdf⟩ := Mt _ I hI
            exact d_mk hI ⟨f, fd, ps, D, M, Fi d', hD, hdf⟩ gd room hgl (by rw [hca]; exact hm) hn hst tk (d_list ih2 e1) (fun z => by subst z; cases e1; rfl)
        · rename_i hl
          split at h
          · rename_i i' hi
            cases h
            split at hi
            · rename_i hx
              subst hx
              split at hi
              · split at hi
                · rename_i a ce _ _ i c hst e1 e2
                  cases hi
                  obtain ⟨hce, hst2⟩ := cl_pe hsc gok cok e2
                  exact d_isi hca (fun c hc => by rw [hdn]; exact cok.slI c hc) cok.errs cok.isi hgl (gok.blt _ hl) hst hst2 (ih _ _ e1) hce
                · cases hi
              · cases hi
            · split at hi
              · rename_i hx
                subst hx
                split at hi
                · split at hi
                  · rename_i a _ i hst e1
                    cases hi
                    exact d_rprO (fun d' c I k _ z1 z2 => let ⟨f, fd, ps, D, p1, p2, p3, p4⟩ := (Mt c I z1).1 _ k z2; ⟨f, fd, ps, D, p1, p2 d', p3, p4⟩) gd room (by omega) cok.sysm hgl (gok.blt _ hl) hst (ih _ _ e1)
                  · cases hi
                · cases hi
              · cases hi
          split at h
          · rename_i a hlr
            obtain ⟨hx, y, p1, p2, hargs, hy, hbl, hst⟩ := lst_of hlr
            obtain ⟨i, e1, e2⟩ := Option.map_eq_some_iff.mp h
            subst e2
            subst hy
            subst hargs
            subst hx
            obtain ⟨hg2, hm2⟩ := blt_of hsc gok hbl
            exact pe_imp (d_lset tg.calm hgl (gok.blt _ hl) hg2 hm2 hst (ih _ _ e1)) fun st H Q t => lset_one t
          split at h
          · rename_i a hlr
            obtain ⟨hx, y, p1, p2, hargs, hy, hbl, hst⟩ := lrg_of hlr
            obtain ⟨i, e1, e2⟩ := Option.map_eq_some_iff.mp h
            subst e2
            subst hy
            subst hargs
            subst hx
            obtain ⟨hg2, hm2⟩ := blt_of hsc gok hbl
            exact d_lrg tg.calm hgl (gok.blt _ hl) hg2 hm2 hst (ih _ _ e1)
          · split at h
            · rename_i b is h1 h2
              cases h
              obtain ⟨hv, hlen⟩ := biOf_boot h1
              obtain ⟨_, hst⟩ := mapX_star h2
              cases args with
              | nil => cases hlen
              | cons a as => exact d_blt tg.calm hgl (gok.blt _ hl) hv hn hst (d_list ih h2)
            · cases h
        · rename_i scs hl
          split at h
          · split at h
            · rename_i ps body scope lp _ _ i hb e1
              cases h
              simp only [Bool.and_eq_true, Bool.not_eq_true'] at hb
              obtain ⟨⟨⟨h1, h2⟩, h3⟩, h4⟩ := hb
              obtain ⟨c0, P0, TB, hcode, hmT, huq⟩ := lm h1
              have hp : ps = ⟨[], [], none, [], [], none, []⟩ := by
                unfold noPar at h4
                split at h4
                · rfl
                · cases h4
              subst hp
              match d, room, c with
              | 0, _, _ => exact ⟨fun pins s st H Q I t => by obtain ⟨_, _, _, _, _, _, q⟩ := t; exact (show False from q).elim⟩
              | 1, _, _ => exact ⟨fun pins s st H Q I t => by obtain ⟨_, _, _, _, _, _, q⟩ := t; exact (show False from q).elim⟩
              | d' + 2, room, c =>
                refine pe_told (E := E) (cok.tld _ _ hl) hca hgl hn TB hcode hmT huq gd room (by rw [hsc]; exact LamX.lamS_by h3) rfl (fun _ _ _ _ _ => rfl) (fun A outer s H E2 f c' hgd2 hr2 => ?_)
                refine hE n (Nat.le_refl n) _ N scope ⟨.function, [], false, false, []⟩ d' E2 m body i ⟨⟨tg.n, tg.nd, rfl, fun x hx => ?_⟩, rfl, ?_, hr2, gok, hgd2, cok, rfl, rfl, rfl, rfl, rfl, fun z => by rw [h2] at z; cases z⟩ (takes_of rfl rfl rfl rfl) e1
                · cases hx
                · exact (LamX.lamS_by h3).kind
            · cases h
          · cases h
        · cases h
      · cases h
    · rename_i a x p
      split at h
      · rename_i i hp e1
        cases hx : decide (x = ("value" : Str)) with
        | true =>
          rw [hx] at h
          cases h
          have hx := of_decide_eq_true hx
          subst hx
          exact d_fld cok.errs hp (ih _ _ e1)
        | false =>
          rw [hx] at h
          cases h
          refine d_att (r := run G n) hC (fun d' c' I k hd h1 h2 => ?_) gd room hp (ih _ _ e1)
          obtain ⟨f, fd, ps, p1, p2, p3⟩ := (Mt c' I h1).2.1 _ k h2
          exact ⟨f, fd, ps, p1, p2 d', p3⟩
      · cases h
    · rename_i keys vals p
      split at h
      · rename_i ks is h1 h2 h3
        cases h
        obtain ⟨h3, h4⟩ := Bool.and_eq_true_iff.mp h3
        have h3 := of_decide_eq_true h3
        have h4 := of_decide_eq_true h4
        cases keys with
        | nil =>
          cases vals with
          | nil =>
            cases h1
            cases h2
            exact d_dsp0
          | cons _ _ => cases h3
        | cons k keys =>
          have hne : ks ≠ [] := by
            obtain ⟨_, _, h5⟩ := pps_of (pos := p) (X := X) ih h1 h2 h3
            intro z
            rw [z] at h5
            have := (mapX_star h2).1
            rw [← this, ← h3] at h5
            cases h5
          cases ks with
          | nil => exact absurd rfl hne
          | cons k' ks => exact d_dsp ih h1 h2 h3 (by simp) h4
      · cases h
    · rename_i o x ap args cp
      split at h
      · rename_i k hst0
        split at h
        · rename_i is h2 h4
          cases h
          obtain ⟨h2, hlt⟩ := Bool.and_eq_true_iff.mp h2
          have hlt := of_decide_eq_true hlt
          obtain ⟨hp, hl⟩ := Bool.and_eq_true_iff.mp h2
          obtain ⟨_, hst⟩ := mapX_star h4
          obtain ⟨y, yp, z, ho, hn, hg, hz⟩ := statO_at _ hst0
          subst ho
          obtain ⟨hm, f, fd, ps, hS, hb, hf⟩ := F.2 _ _ _ _ hz
          cases d with
          | zero => exact ⟨fun pins s st H Q I t => by obtain ⟨_, _, _, _, _, _, q⟩ := t; exact (show False from q).elim⟩
          | succ d => exact d_sta hS (hf d) gd room (glob_of hsc hg) hm hb tk hn hl (fun z => by subst z; cases hp) hst hlt (d_list ih h4)
        · cases h
      split at h
      · rename_i i is h2 h3 h4
        obtain ⟨h2, hlt⟩ := Bool.and_eq_true_iff.mp h2
        have hlt := of_decide_eq_true hlt
        obtain ⟨hp, hl⟩ := Bool.and_eq_true_iff.mp h2
        obtain ⟨_, hst⟩ := mapX_star h4
        cases h1 : mtOf x args.length with
        | some mt =>
          rw [h1] at h
          cases h
          obtain ⟨hx, hlen⟩ := mtOf_name h1
          cases args with
          | nil => cases mt <;> cases hlen
          | cons a as => exact d_mth (by omega) hx hp hl hst (by rw [hlen]; cases mt <;> decide) (ih _ _ h3) (d_list ih h4)
        | none =>
          rw [h1] at h
          cases h
          refine d_mcl (r := run G n) hC (fun d' c' I k hd z1 z2 => ?_) gd room hp hl hst hlt tk (ih _ _ h3) (d_list ih h4) (fun z => by subst z; cases h4; rfl)
          obtain ⟨f, fd, ps, D, p1, p2, p3, p4⟩ := (Mt c' I z1).1 _ k z2
          exact ⟨f, fd, ps, D, p1, p2 d', p3, p4⟩
      · cases h
    · dsimp only at h
      split at h
      · rename_i k es t is i h1 h2 h3 h4 h5
        split at h
        · rename_i h6
          cases h
          obtain ⟨ok, hset, hown, hi, hg, ht, he⟩ := e_lc hE hT c tk h1 h2 h3 h4 h5 h6
          exact d_lc tg.calm (by rw [hN]; exact tg.nd) ok hown hset hi hg ht he
        · cases h
      · cases h
    · split at h
      · rename_i i hc e1
        cases h
        have hc := of_decide_eq_true hc
        subst hc
        exact d_fmt (ih _ _ e1)
      · cases h
    · split at h
      · rename_i is hc e1
        cases h
        exact d_js ih e1 (of_decide_eq_true hc)
      · cases h
    · cases h
/-- an expression as a test -/
theorem t_step (hca : ca.fn = He.ga K) (hdn : ca.dn = dnOf G.cls) (hE : ∀ m, m ≤ n → EOk P w K mg base g G ca m) (hT : ∀ m, m ≤ n → TOk P w K mg base g G ca m) (hM : ∀ m, m ≤ n → MthsOk P w K mg base G ca m) : TOk P w K mg base g G ca (n + 1) := by
  intro X N sc scL d E m e ie c tk h
  have hu := c.room.un
  obtain ⟨tg, hsc, kind, room, gok, gd, cok, rfl, rfl, rfl, rfl, rfl, lm⟩ := c
  have c : Cok X.prog X.w X.K X.mg X.base g G ca X N sc scL d := ⟨tg, hsc, kind, room, gok, gd, cok, rfl, rfl, rfl, rfl, rfl, lm⟩
  have hw := hE n (Nat.le_refl n) X N sc scL d E m e ie c tk h
  cases m with
  | zero => cases h
  | succ m =>
    have iht : ∀ e ie, trE g N m sc e = some ie → PT X e (tOfB X.K ca (wE E) ((run G n).t d ie)) := fun e ie z => hT n (Nat.le_refl n) X N sc scL d E m e ie c tk z
    show PT X e (tOfB X.K ca (wE E) (stT (run G n) d ie))
    unfold trE at h
    split at h
    · split at h
      · cases h; exact dt_tru hw fun _ => rfl
      · cases h; exact dt_tru hw fun _ => rfl
      · cases h; exact dt_tru hw fun _ => rfl
      · cases h; exact dt_tru hw fun _ => rfl
      · cases h
    · split at h
      · split at h
        · obtain ⟨i, e1, e2⟩ := Option.map_eq_some_iff.mp h
          subst e2
          exact dt_tru hw fun _ => rfl
        · split at h
          · split at h
            · cases h
              exact dt_tru hw fun _ => rfl
            · cases h
          · cases h
      · cases h
    · split at h
      · cases h
        exact dt_tru hw fun _ => rfl
      · cases h
    · obtain ⟨i, e1, e2⟩ := Option.map_eq_some_iff.mp h
      subst e2
      exact dt_tru hw fun _ => rfl
    · obtain ⟨i, e1, e2⟩ := Option.map_eq_some_iff.mp h
      subst e2
      exact dt_nt (iht _ _ e1)
    · obtain ⟨i, e1, e2⟩ := Option.map_eq_some_iff.mp h
      subst e2
      exact (dt_an iht e1).pt
    · obtain ⟨i, e1, e2⟩ := Option.map_eq_some_iff.mp h
      subst e2
      exact (dt_or iht e1).pt
    · split at h
      · rename_i i j hm h1 h2
        cases h
        cases n with
        | zero => exact ⟨fun pins s st H Q I t => by obtain ⟨_, _, _, _, _, _, q⟩ := t; exact (show False from q).elim⟩
        | succ n =>
          have ih : ∀ e ie, trE g N m sc e = some ie → PE X e (tOf X.K ca (wE E) ((run G n).e d ie)) := fun e ie z => hE n (Nat.le_succ n) X N sc scL d E m e ie c tk z
          exact dt_cmpO (by omega) hm (lvk (P := X.prog) (w := X.w) (mg := X.mg) (base := X.base) hca hdn cok (hM n (Nat.le_succ n))) tk gd room (ih _ _ h1) (ih _ _ h2)
      · cases h
    · split at h
      · rename_i i j k hm h1 h2 h3
        cases h
        cases n with
        | zero => exact ⟨fun pins s st H Q I t => by obtain ⟨_, _, _, _, _, _, q⟩ := t; exact (show False from q).elim⟩
        | succ n =>
          have ih : ∀ e ie, trE g N m sc e = some ie → PE X e (tOf X.K ca (wE E) ((run G n).e d ie)) := fun e ie z => hE n (Nat.le_succ n) X N sc scL d E m e ie c tk z
          exact dt_chn (by omega) hm (ih _ _ h1) (ih _ _ h2) (ih _ _ h3)
      · cases h
    · split at h
      · cases h
        exact ⟨fun pins s st H Q I t => by obtain ⟨_, _, _, _, _, _, q⟩ := t; exact (show False from q).elim⟩
      · cases h
    · split at h
      · obtain ⟨is, e1, e2⟩ := Option.map_eq_some_iff.mp h
        subst e2
        exact dt_tru hw fun _ => rfl
      · obtain ⟨is, e1, e2⟩ := Option.map_eq_some_iff.mp h
        subst e2
        exact dt_tru hw fun _ => rfl
    · split at h
      · obtain ⟨is, e1, e2⟩ := Option.map_eq_some_iff.mp h
        subst e2
        exact dt_tru hw fun _ => rfl
      · obtain ⟨is, e1, e2⟩ := Option.map_eq_some_iff.mp h
        subst e2
        exact dt_tru hw fun _ => rfl
    · split at h
      · split at h
        · cases h
          exact dt_tru hw fun _ => rfl
        · cases h
      · split at h
        · cases h
          exact dt_tru hw fun _ => rfl
        · cases h
    · split at h
      · split at h
        · obtain ⟨is, e1, e2⟩ := Option.map_eq_some_iff.mp h
          subst e2
          exact dt_tru hw fun _ => rfl
        · split at h
          · split at h
            · cases h
              exact dt_tru hw fun _ => rfl
            · cases h
          · cases h
        · obtain ⟨is, e1, e2⟩ := Option.map_eq_some_iff.mp h
          subst e2
          exact dt_tru hw fun _ => rfl
        · split at h
          · rename_i i' hi
            cases h
            split at hi
            · split at hi
              · split at hi
                · cases hi
                  exact dt_tru hw fun _ => rfl
                · cases hi
              · cases hi
            · split at hi
              · split at hi
                · split at hi
                  · cases hi
                    exact dt_tru hw fun _ => rfl
                  · cases hi
                · cases hi
              · cases hi
          split at h
          · obtain ⟨is, e1, e2⟩ := Option.map_eq_some_iff.mp h
            subst e2
            exact dt_tru hw fun _ => rfl
          split at h
          · obtain ⟨is, e1, e2⟩ := Option.map_eq_some_iff.mp h
            subst e2
            exact dt_tru hw fun _ => rfl
          · split at h
            · cases h
              exact dt_tru hw fun _ => rfl
            · cases h
        · split at h
          · split at h
            · cases h
              exact dt_tru hw fun _ => rfl
            · cases h
          · cases h
        · cases h
      · cases h
    · split at h
      · cases h
        have key := dt_tru hw fun _ => rfl; clear hw; revert key; split <;> exact fun z => z
      · cases h
    · split at h
      · cases h
        exact dt_tru hw fun _ => rfl
      · cases h
    · split at h
      · split at h
        · cases h
          exact dt_tru hw fun _ => rfl
        · cases h
      split at h
      · cases h
        have key := dt_tru hw fun _ => rfl; clear hw; revert key; split <;> exact fun z => z
      · cases h
    · dsimp only at h
      split at h
      · split at h
        · cases h
          exact dt_tru hw fun _ => rfl
        · cases h
      · cases h
    · split at h
      · cases h
        exact dt_tru hw fun _ => rfl
      · cases h
    · split at h
      · cases h
        exact dt_tru hw fun _ => rfl
      · cases h
    · cases h
end
end Mi

set_option Elab.async false
set_option linter.all false
set_option maxRecDepth 100000
set_option maxHeartbeats 4000000
/-! D18: statements, by their run. -/
namespace Mi
open PySem L2 PyProof.Rows
section
variable (P : Program) (w : World) (K : PySem.W.Frag) (mg : Str → Option Value) (base : Heap) (g : Glo) (G : Prg) (ca : CaT) (n : Nat)
def SOk : Prop := ∀ (X : Cx) (N : List Str) (sc : Scope) (d : Nat) (E : XK) (m : Nat) (sts : List Stmt) (ib : List IS), Cok P w K mg base g G ca X N sc sc d → Takes X (wE E) → PassesOwn (model X.prog X.w) X.A X.env X.xe → trS g N m sc sts = some ib → PSs X sts (tS K ca (wE E) ((run G n).s d ib))
end
section
variable {X : Cx} {ca : CaT} {W : WS}
/-! ### o[i] = v -/
def rSet (K : PySem.W.Frag) (ca : CaT) : TSet := fun o i v H Q => ∃ (ia : List Addr) (h : LH) (ov iv vv : Val) (h' : LH), Rep K ca ia H h ∧ RV K ia H ov o ∧ RV K ia H iv i ∧ RV K ia H vv v ∧ vSet ov iv vv h = some h' ∧
  ∀ H', Grow ia H [] H' → Rep K ca ia H' h' → Q H'
theorem set_any (hu : X.A.units + 1 < cLine) : PSet X (rSet X.K ca) := by
  intro pins s st H o i v ov iv u Q I ro ri rv ⟨ia, h, oV, iV, vV, h', R, r1, r2, r3, e, q⟩
  unfold vSet at e
  split at e
  · rename_i n
    cases r1 with
    | loc hn =>
      rename_i a
      split at e
      · rename_i xs hx
        split at e
        · rename_i k
          obtain ⟨j, e1, e2⟩ := Option.map_eq_some_iff.mp e
          subst e2
          cases r2
          obtain ⟨ys, hy, rs⟩ := R.ob n _ a hx hn
          refine set_list pins s st H _ _ v ov iv u Q I ro ri rv ⟨a, ys, k, j, rfl, rfl, hy, by rw [← rs.len]; exact e1, ?_⟩
          have hk : Hold ia [] H (upd H a (.lst (ys.set j v))) := Hold.set hy (fun _ z => by cases z) (fun _ _ z => by cases z)
          refine q _ (Grow.set hn hy) (R.set hn hk ⟨_, upd_same, ?_⟩)
          have z := RVs.stay (ka := []) hk (rs.set r3 j)
          rw [app_nil] at z
          exact z
        · cases e
      · rename_i kvs hx
        split at e
        · rename_i hl
          obtain ⟨k, e1, e2⟩ := Option.map_eq_some_iff.mp e
          subst e2
          obtain ⟨kws, hy, rs⟩ := R.ob n _ a hx hn
          have ek := keyOf_ok e1 r2
          subst ek
          refine set_dict hu pins s st H _ _ v ov iv u Q I ro ri rv ⟨a, _, rfl, DPut.k hy (by rw [← rs.len]; exact hl), ?_⟩
          have hk : Hold ia [] H (upd H a (.dK (putK kws k v))) := Hold.set hy (fun _ z => by cases z) (fun _ _ z => by cases z)
          refine q _ (Grow.set hn hy) (R.set hn hk ⟨_, upd_same, ?_⟩)
          have z := RKV.stay (ka := []) hk (put_ok r3 k rs)
          rw [app_nil] at z
          exact z
        · cases e
      · rename_i kvs hx
        split at e
        · rename_i ks
          split at e
          · rename_i hl
            obtain ⟨k, e1, e2⟩ := Option.map_eq_some_iff.mp e
            subst e2
            obtain ⟨kws, hy, rs⟩ := R.ob n _ a hx hn
            cases r2 with
            | tup ht rk =>
              have ek := keysOf_ok e1 rk
              subst ek
              refine set_dict hu pins s st H _ _ v ov iv u Q I ro ri rv ⟨a, _, rfl, DPut.t hy ht (by rw [← rs.len]; exact hl), ?_⟩
              have hk : Hold ia [] H (upd H a (.dT (putK kws k v))) := Hold.set hy (fun _ z => by cases z) (fun _ _ z => by cases z)
              refine q _ (Grow.set hn hy) (R.set hn hk ⟨_, upd_same, ?_⟩)
              have z := RKV.stay (ka := []) hk (put_ok r3 k rs)
              rw [app_nil] at z
              exact z
          · cases e
        · cases e
      · cases e
  · cases e
/-! ### which stores are exchanged -/
theorem sw_not {e tg : Expr} {l : Nat} {env : Env} (h : noComp e = true) : swapsWithSole [tg] e l env = pure false := by
  cases e <;> first | rfl | cases h
theorem sw_none {e : Expr} {l : Nat} {env : Env} (h : noComp e = true) : swapsWith e none l env = pure false := by
  cases e <;> first | rfl | cases h
theorem sw_att {e o : Expr} {f : Str} {p : Pos} {l : Nat} {env : Env} (h : noComp e = true) : swapsWith e (some (.Attribute o f p)) l env = pure false := by
  cases e <;> first | rfl | cases h
theorem sw_lc {elt : Expr} {gs : List Comprehension} {scope : Scope} {pos py : Pos} {y : Str} {l : Nat} (hk : X.env.scope.kind = .function) : swapsWithSole [.Name y py] (.ListComp elt gs scope pos) l X.env = pure (lcSw X.env.scope scope y py pos) := by
  have hb : X.env.blockKind = .function := by unfold Env.blockKind; rw [hk]; rfl
  unfold swapsWithSole swapsWith lcSw
  simp only [hb, Env.kindOf, Expr.pos]
  rfl
end
end Mi

set_option Elab.async false
set_option linter.all false
set_option maxRecDepth 100000
set_option maxHeartbeats 4000000
/-! D19: a statement's step, a def's step. -/
namespace Mi
open PySem L2 PyProof.Rows
section
variable {K : PySem.W.Frag} {ca : CaT} {W : WS} {X : Cx}
theorem asg_read {m : M Val} {t : ITg} {D : Ends} {st : L2.St} {H : Hp} (h : tS K ca W (fun sl h => ofR (m sl h) sl fun v h1 => nxB t v sl h1) D st H) : tAsg (tOf K ca W m) (gB K ca t) D st H := by
  refine (tS.ofR (f := fun v sl h1 => nxB t v sl h1) h).mono fun x H1 ⟨ia, sl, h, v, R, S, r, q⟩ => ?_
  unfold nxB at q
  split at q
  · rename_i sl1 e
    exact ⟨ia, sl, h, v, sl1, R, S, r, e, fun st' S' _ => WantS.nxNow q R S'⟩
  · exact (show False from q).elim
theorem sub_read {mo mi me : M Val} {D : Ends} {st : L2.St} {H : Hp} (h : tS K ca W (fun sl h => ofR (me sl h) sl fun v h1 => ofR (mo sl h1) sl fun ov h2 => ofR (mi sl h2) sl fun iv h3 => match vSet ov iv v h3 with
    | some h4 => .nx sl h4
    | none => .bad) D st H) : tAsg (tOf K ca W me) (gSub (tOf K ca W mo) (tOf K ca W mi) (rSet K ca)) D st H := by
  have step : ∀ {vs : List Val} {xs : List V} {m : M Val} {f : Val → MS} {H : Hp} {ia : List Addr} {sl : LS} {h : LH}, Rep K ca ia H h → RS K ia H sl st → RVs K ia H vs xs → WantS K ca ia H (ofR (m sl h) sl fun v h1 => f v sl h1) D W →
      tOf K ca W m st H (fun x H1 => ∃ (ia : List Addr) (sl : LS) (h : LH) (v : Val), Rep K ca ia H1 h ∧ RS K ia H1 sl st ∧ RVs K ia H1 (v :: vs) (x :: xs) ∧ WantS K ca ia H1 (f v sl h) D W) := by
    intro vs xs m f H ia sl h R S r w
    refine ⟨ia, sl, h, R, S, .nil, ?_⟩
    cases e : m sl h with
    | bad => rw [e] at w; exact w
    | exc c v h' =>
      rw [e] at w
      exact fun ka H' d y g R' hd r' => w ka H' d y st g R' hd r' (S.grow g R)
    | ok v h1 =>
      rw [e] at w
      exact fun ka H1 x g R1 r1 => ⟨ia ++ ka, sl, h1, v, R1, S.grow g R, .cons r1 (r.grow g R), WantS.shift w g⟩
  obtain ⟨ia, sl, h, R, S, q⟩ := h
  refine (step (f := fun v sl h1 => ofR (mo sl h1) sl fun ov h2 => ofR (mi sl h2) sl fun iv h3 => match vSet ov iv v h3 with
    | some h4 => .nx sl h4
    | none => .bad) R S .nil q).mono fun x H1 ⟨ia, sl, h, v, R, S, r, q⟩ => ?_
  refine (step (f := fun ov sl h2 => ofR (mi sl h2) sl fun iv h3 => match vSet ov iv v h3 with
    | some h4 => .nx sl h4
    | none => .bad) R S r q).mono fun x H1 ⟨ia, sl, h, ov, R, S, r, q⟩ => ?_
  refine (step (f := fun iv sl h3 => match vSet ov iv v h3 with
    | some h4 => .nx sl h4
    | none => .bad) R S r q).mono fun x H1 ⟨ia, sl, h, iv, R, S, r, q⟩ => ?_
  split at q
  · rename_i h4 e
    cases r with
    | cons r1 r =>
      cases r with
      | cons r2 r =>
        cases r with
        | cons r3 _ =>
          refine ⟨ia, h, ov, iv, v, h4, R, r2, r1, r3, e, fun H' g R' => ?_⟩
          refine q [] H' st g (by rw [app_nil]; exact R') ?_
          exact S.grow g R
  · exact (show False from q).elim
theorem par_read {ml : M (List Val)} {i j : Nat} {D : Ends} {st : L2.St} {H : Hp} (h : tS K ca W (fun sl h => ofR ((ml sl h).bind fun vs h1 => chk (decide (vs.length ≤ sizeLine)) (.ok (.tup vs) h1)) sl fun v h1 => nxB (.tp [.nm i, .nm j]) v sl h1) D st H) : tPar i j (tOfL K ca W ml) D st H := by
  obtain ⟨ia, sl, h, R, S, q⟩ := h
  refine ⟨ia, sl, h, R, S, .nil, ?_⟩
  dsimp only at q
  cases e : ml sl h with
  | bad => rw [e] at q; exact q
  | exc c v h' =>
    rw [e] at q
    exact fun ka H' d y g R' hd r' => q ka H' d y st g R' hd r' (S.grow g R)
  | ok vs h1 =>
    rw [e] at q
    intro ka H1 xs g R1 rs
    have q1 : WantS K ca ia H (ofR (chk (decide (vs.length ≤ sizeLine)) (.ok (.tup vs) h1)) sl fun v h1 => nxB (.tp [.nm i, .nm j]) v sl h1) D W := q
    cases hd : decide (vs.length ≤ sizeLine) with
    | false => rw [hd] at q1; exact (show False from q1).elim
    | true =>
      rw [hd] at q1
      have q2 : WantS K ca ia H (match bindTs [.nm i, .nm j] vs sl with
        | some sl1 => .nx sl1 h1
        | none => .bad) D W := q1
      cases rs with
      | nil => exact (show False from q2).elim
      | cons r1 rs =>
        cases rs with
        | nil => exact (show False from q2).elim
        | cons r2 rs =>
          cases rs with
          | cons _ _ => exact (show False from q2).elim
          | nil =>
            refine ⟨_, _, rfl, ?_⟩
            exact q2 ka H1 _ g R1 (((S.grow g R).set r1).set r2)
theorem ret_read {m : M Val} {D : Ends} {st : L2.St} {H : Hp} (h : tS K ca W (fun sl h => ofR (m sl h) sl fun v h1 => .rt v h1) D st H) : tRet (tOf K ca W m) D st H := by
  refine (tS.ofR (f := fun v sl h1 => .rt v h1) h).mono fun x H1 ⟨ia, sl, h, v, R, S, r, q⟩ => ?_
  exact q [] H1 x (Grow.refl ia H1) (by rw [app_nil]; exact R) (by rw [app_nil]; exact r)
theorem ex_read {m : M Val} {D : Ends} {st : L2.St} {H : Hp} (h : tS K ca W (fun sl h => ofR (m sl h) sl fun _ h1 => .nx sl h1) D st H) : tDrop (tOf K ca W m) D st H := by
  refine (tS.ofR (f := fun v sl h1 => .nx sl h1) h).mono fun x H1 ⟨ia, sl, h, v, R, S, r, q⟩ => ?_
  exact WantS.nxNow q R S
theorem if_read {mt : M Bool} {ma mb : MS} {D : Ends} {st : L2.St} {H : Hp} (h : tS X.K ca W (fun sl h => ofRB (mt sl h) sl fun x h1 => match x with
    | true => ma sl h1
    | false => mb sl h1) D st H) : tIfS (tOfB X.K ca W mt) (tS X.K ca W ma) (tS X.K ca W mb) D st H := by
  refine tCB.mono (tS.ofRB (f := fun x sl h1 => match x with
    | true => ma sl h1
    | false => mb sl h1) h) fun b H1 t => ?_
  cases b with
  | true => rw [if_pos rfl]; exact t
  | false => rw [if_neg Bool.false_ne_true]; exact t
section
variable {P : Program} {w : World} {mg : Str → Option Value} {base : Heap} {g : Glo} {G : Prg} {n : Nat}
theorem trG_name {N : List Str} {sc : Scope} {m : Nat} {x : Str} {p : Pos} {t : ITg} (h : trG N sc m (.Name x p) = some t) : ∃ i, t = .nm i ∧ N[i]? = some x := by
  cases m with
  | zero => cases h
  | succ m =>
    unfold trG at h
    dsimp only at h
    split at h
    · obtain ⟨i, e1, e2⟩ := Option.map_eq_some_iff.mp h
      exact ⟨i, e2.symm, idx_ok e1⟩
    · cases h
theorem trG_two {N : List Str} {sc : Scope} {m : Nat} {x y : Str} {p q r : Pos} {k : Nat} {t : ITg} (h : trG N sc m (.Tuple [.Name x p, .Name y q] k r) = some t) : ∃ i j, t = .tp [.nm i, .nm j] ∧ N[i]? = some x ∧ N[j]? = some y := by
  cases m with
  | zero => cases h
  | succ m =>
    unfold trG at h
    dsimp only at h
    obtain ⟨ts, e1, e2⟩ := Option.map_eq_some_iff.mp h
    subst e2
    cases m with
    | zero => cases e1
    | succ m =>
      unfold trGs at e1
      split at e1
      · rename_i t1 ts1 _ h1 h2
        cases e1
        cases m with
        | zero => cases h2
        | succ m =>
          unfold trGs at h2
          split at h2
          · rename_i t2 ts2 _ h3 h4
            cases h2
            cases m with
            | zero =>
              cases h4
              obtain ⟨i, rfl, hi⟩ := trG_name h1
              obtain ⟨j, rfl, hj⟩ := trG_name h3
              exact ⟨i, j, rfl, hi, hj⟩
            | succ m =>
              cases h4
              obtain ⟨i, rfl, hi⟩ := trG_name h1
              obtain ⟨j, rfl, hj⟩ := trG_name h3
              exact ⟨i, j, rfl, hi, hj⟩
          · cases h2
      · cases e1
/-- two names, both plain locals -/
theorem two_names {sc : Scope} {ts : List Expr} {L : Nat} (h2 : ts.length = 2) (h : (ts.filterMap fun
      | .Name id pos => if sc.names.lookup id == some .local && pos.line == L then some id else none
      | _ => none).length = ts.length) (hd : (ts.filterMap fun
      | .Name id pos => if sc.names.lookup id == some .local && pos.line == L then some id else none
      | _ => none).eraseDups.length = ts.length) : ∃ x p y q, ts = [.Name x p, .Name y q] ∧ sc.names.lookup x = some .local ∧ sc.names.lookup y = some .local ∧ x ≠ y ∧ (ts.filterMap fun
      | .Name id pos => if sc.names.lookup id == some .local && pos.line == L then some id else none
      | _ => none) = [x, y] := by
  have one : ∀ (e : Expr) (l : List Expr), ((e :: l).filterMap fun
      | .Name id pos => if sc.names.lookup id == some .local && pos.line == L then some id else none
      | _ => none).length = (e :: l).length → ∃ x p, e = .Name x p ∧ sc.names.lookup x = some .local ∧ ((e :: l).filterMap fun
      | .Name id pos => if sc.names.lookup id == some .local && pos.line == L then some id else none
      | _ => none) = x :: (l.filterMap fun
      | .Name id pos => if sc.names.lookup id == some .local && pos.line == L then some id else none
      | _ => none) := by
    intro e l hl
    rw [List.filterMap_cons] at hl
    split at hl
    · have := List.length_filterMap_le (fun
      | .Name id pos => if sc.names.lookup id == some .local && pos.line == L then some id else none
      | _ => none) l
      simp only [List.length_cons] at hl
      omega
    · rename_i b hb
      split at hb
      · rename_i x p
        split at hb
        · rename_i hc
          cases hb
          refine ⟨_, _, rfl, ?_, ?_⟩
          · have := (Bool.and_eq_true_iff.mp hc).1
            simpa using this
          · rw [List.filterMap_cons]
            simp only [hc, if_true]
        · cases hb
      · cases hb
  match ts, h2 with
  | [a, b], _ =>
    obtain ⟨x, p, e1, l1, f1⟩ := one a [b] h
    rw [f1] at h hd
    obtain ⟨y, q, e2, l2, f2⟩ := one b [] (by simpa using h)
    rw [f2] at hd
    subst e1 e2
    refine ⟨x, p, y, q, rfl, l1, l2, fun z => ?_, by rw [f1, f2]; rfl⟩
    subst z
    have e0 : ([x, x] : List Str).eraseDups.length = 1 := by
      simp [List.eraseDups_cons]
    have hd' : ([x, x] : List Str).eraseDups.length = 2 := hd
    omega
end
end
end Mi

set_option Elab.async false
set_option linter.all false
set_option maxRecDepth 100000
set_option maxHeartbeats 4000000
/-! D20: a statement's step, a def's step. -/
namespace Mi
open PySem L2 PyProof.Rows
section
variable {P : Program} {w : World} {K : PySem.W.Frag} {mg : Str → Option Value} {base : Heap} {g : Glo} {G : Prg} {ca : CaT} {n : Nat}
theorem noSet_fold {iter : Expr} (h : noSet iter = true) (env : Env) : ∀ x, foldedSetIterable iter env x = pure x := by
  intro x
  cases iter <;> first | rfl | cases h
theorem asg_sub {o i : Expr} {pos : Pos} {env : Env} (h : noSlice i = true) : ∀ v, assign (.Subscript o i pos) env v = (do
      let ov ← holding [v] (eval o env)
      let iv ← holding [v, ov] (eval i env)
      standAt pos
      holding [v, ov, iv] (setItem ov iv v)
      release [v, ov, iv] []) := by
  intro v
  cases i <;> first | rfl | cases h
theorem sub_sw {o i : Expr} {pos : Pos} (e : Expr) (env : Env) : swappedStores [.Subscript o i pos] e env = pure none := by
  cases e <;> rfl
theorem trE_tup {N : List Str} {m : Nat} {sc : Scope} {vs : List Expr} {k : Nat} {p : Pos} {ie : IE} (hns : vs.all noStar = true) (h : trE g N m sc (.Tuple vs k p) = some ie) : ∃ m' is, m = m' + 1 ∧ mapX (trE g N m' sc) vs = some is ∧ ie = .tp is := by
  cases m with
  | zero => cases h
  | succ m =>
    unfold trE at h
    dsimp only at h
    rw [hns] at h
    obtain ⟨is, e1, e2⟩ := Option.map_eq_some_iff.mp h
    exact ⟨m, is, rfl, e1, e2.symm⟩
theorem asg_step (hE : ∀ m, m ≤ n → EOk P w K mg base g G ca m) (hT : ∀ m, m ≤ n → TOk P w K mg base g G ca m) {X : Cx} {N : List Str} {sc : Scope} {d m : Nat} {E : XK} (c : Cok P w K mg base g G ca X N sc sc d) (tk : Takes X (wE E)) {tg e : Expr} {pos : Pos} {t : ITg} {ie : IE}
    (h1 : trG N sc m tg = some t) (h2 : trE g N m sc e = some ie) (h3 : asgOk sc tg e = true) : PS X (.Assign [tg] e pos) (tS K ca (wE E) (fun sl h => ofR ((run G n).e d ie sl h) sl fun v h1 => nxB t v sl h1)) := by
  have he := hE n (Nat.le_refl n) X N sc sc d E m e ie c tk h2
  have hg : PG X tg (gB K ca t) := by
    have q := d_tg (ca := ca) c.tg h1
    rw [c.hK] at q
    exact q
  have hk : X.env.scope.kind = .function := by rw [c.scope]; exact c.kind
  have a1 : (assignEach [tg] X.env).map (·.2) = [assign tg X.env] := by
    cases tg <;> first | rfl | (cases m <;> cases h1)
  have plain : swapsWithSole [tg] e pos.line X.env = pure false → swappedStores [tg] e X.env = pure none → PS X (.Assign [tg] e pos) (tS K ca (wE E) (fun sl h => ofR ((run G n).e d ie sl h) sl fun v h1 => nxB t v sl h1)) := fun z1 z2 => ps_imp (ps_asg he hg z1 z2 a1) fun D st H q => asg_read q
  cases e with
  | ListComp elt gs scope ep =>
    cases tg with
    | Name y py =>
      cases hl : lcSw sc scope y py ep with
      | false => exact plain (by rw [sw_lc hk, c.scope, hl]) rfl
      | true =>
        cases m with
        | zero => cases h2
        | succ m =>
          unfold trE at h2
          split at h2
          all_goals first | (rename_i heq; cases heq; done) | (cases h2; done) | skip
          · rename_i heq
            cases heq
            dsimp only at h2
            split at h2
            · rename_i k es t' is i z1 z2 z3 z4 z5
              split at h2
              · rename_i z6
                cases h2
                cases n with
                | zero => exact ⟨fun pins s st H D I t => by obtain ⟨_, _, _, _, _, q⟩ := t; exact (show False from q).elim⟩
                | succ n =>
                  obtain ⟨ok, hset, hown, hi, hg', ht, he'⟩ := e_lc (n := n) (fun m hm => hE m (Nat.le_succ_of_le hm)) (fun m hm => hT m (Nat.le_succ_of_le hm)) c tk z1 z2 z3 z4 z5 z6
                  obtain ⟨i0, rfl, hi0⟩ := trG_name h1
                  unfold lcSw at hl
                  simp only [Bool.and_eq_true, beq_iff_eq, Bool.not_eq_true'] at hl
                  obtain ⟨⟨l1, l2⟩, l3⟩ := hl
                  have hyl : X.env.scope.names.lookup y = some .local := by rw [c.scope]; exact l1
                  obtain ⟨tgk, hsc, kind, room, gok, gd, cok, rfl, rfl, rfl, rfl, rfl, _⟩ := c
                  refine ps_imp (ps_setLc (g := gB X.K ca t') (tt := fun st H Q => ∃ m, m ≤ n ∧ tOfB X.K ca W0 (tsIf ((run G m).t d) is) st H Q) (te := fun st H Q => ∃ m, m ≤ n ∧ tOf X.K ca W0 ((run G m).e d i) st H Q) tgk.calm (by rw [tgk.n]; exact tgk.nd) (by rw [tgk.n]; exact hi0) hyl
                    (sw_true hk hyl (by simpa using l2) l3) hi ok hg' (fun s H C cl fp => ⟨fun pins s' st H' Q I ⟨m, hm, t⟩ => (ht m hm s H C cl fp).run pins s' st H' Q I t⟩) (fun s H C cl fp => ⟨fun pins s' st H' Q I ⟨m, hm, t⟩ => (he' m hm s H C cl fp).run pins s' st H' Q I t⟩) ?_) fun D st H q => ?_
                  · exact noSet_fold hset _
                  · have q1 := asg_read q
                    have q2 : tOf X.K ca (wE E) ((run G (n + 1)).e d (.lc t' k es is i ((ownOf N _).map (·.2)))) st H (fun x H1 => gName i0 x st H1 D.nx) := tC.mono q1 fun x H1 z => gB_nm (X := X) z
                    exact lc_read (evL ((run G n).e d) es) hown q2
              · cases h2
            · cases h2
    | _ => cases h3
  | Tuple vs k2 p2 =>
    cases tg with
    | Tuple ts k1 p1 =>
      unfold asgOk at h3
      dsimp only at h3
      split at h3
      · rename_i hs
        obtain ⟨o, e1, e2, _⟩ := sw_tup (X := X) (k1 := k1) (k2 := k2) (p1 := p1) (p2 := p2) hk (by rw [c.scope]; exact hs)
        exact plain rfl (by rw [e1, e2 rfl])
      · rename_i hs
        obtain ⟨o, e1, _, e2⟩ := sw_tup (X := X) (k1 := k1) (k2 := k2) (p1 := p1) (p2 := p2) hk (by rw [c.scope]; exact hs)
        obtain ⟨e2', e3, e4, e5⟩ := e2 rfl
        obtain ⟨h3, hns⟩ := Bool.and_eq_true_iff.mp h3
        obtain ⟨x, p, y, q, rfl, l1, l2, hxy, hnm⟩ := two_names (of_decide_eq_true h3) e3 e5
        obtain ⟨i, j, rfl, hi, hj⟩ := trG_two h1
        obtain ⟨m', is, rfl, z1, rfl⟩ := trE_tup hns h2
        have hl2 : vs.length = 2 := e4
        match vs, hl2 with
        | [a, b], _ =>
          cases n with
          | zero => exact ⟨fun pins s st H D I t => by obtain ⟨_, _, _, _, _, q⟩ := t; exact (show False from q).elim⟩
          | succ n =>
            have ih : ∀ e ie, trE g N m' sc e = some ie → PE X e (tOf K ca (wE E) ((run G n).e d ie)) := fun e ie z => hE n (Nat.le_succ n) X N sc sc d E m' e ie c tk z
            obtain ⟨tgk, hsc, kind, room, gok, gd, cok, rfl, rfl, rfl, rfl, rfl, _⟩ := c
            have ha := d_list (ca := ca) (W := wE E) ih z1
            refine ps_imp (ps_par tgk.calm (by rw [tgk.n]; exact tgk.nd) (by rw [tgk.n]; exact hi) (by rw [tgk.n]; exact hj) (fun z => ?_) l1 l2 ha (by rw [e1, e2']; exact congrArg (fun l => pure (some l)) hnm)) fun D st H q => par_read q
            subst z
            rw [hi] at hj
            exact hxy (Option.some.inj hj)
      · cases h3
    | Name y py => exact plain rfl rfl
    | _ => cases m <;> cases h1
  | SetComp _ _ _ _ => cases h3
  | DictComp _ _ _ _ _ => cases h3
  | _ => exact plain (sw_not rfl) (by cases tg <;> rfl)
theorem s1_step (hca : ca.fn = He.ga K) (hdn : ca.dn = dnOf G.cls) (hE : ∀ m, m ≤ n → EOk P w K mg base g G ca m) (hT : ∀ m, m ≤ n → TOk P w K mg base g G ca m) (hS : ∀ m, m ≤ n → SOk P w K mg base g G ca m) {X : Cx} {N : List Str} {sc : Scope} {d m : Nat} {E : XK} (c : Cok P w K mg base g G ca X N sc sc d) (tk : Takes X (wE E))
    (hp : PassesOwn (model X.prog X.w) X.A X.env X.xe) {st : Stmt} {i : IS} (h : trS1 g N (trS g N m sc) m sc st = some i) : PS X st (tS K ca (wE E) (stS1 G (run G n) d i)) := by
  have ih : ∀ e ie, trE g N m sc e = some ie → PE X e (tOf K ca (wE E) ((run G n).e d ie)) := fun e ie z => hE n (Nat.le_refl n) X N sc sc d E m e ie c tk z
  have iht : ∀ e ie, trE g N m sc e = some ie → PT X e (tOfB K ca (wE E) ((run G n).t d ie)) := fun e ie z => hT n (Nat.le_refl n) X N sc sc d E m e ie c tk z
  have ihs : ∀ s b, trS g N m sc s = some b → PSs X s (tS K ca (wE E) ((run G n).s d b)) := fun s b z => hS n (Nat.le_refl n) X N sc d E m s b c tk hp z
  have hu := c.room.un
  unfold trS1 at h
  split at h
  · cases h
    exact ps_imp ps_doc fun D st H t => by
      obtain ⟨ia, sl, h, R, S, q⟩ := t
      exact WantS.nxNow q R S
  · split at h
    · rename_i ie z0 z1
      cases h
      exact ps_imp (ps_expr (ih _ _ z1) (sw_none z0)) fun D st H t => ex_read t
    · cases h
  · split at h
    · split at h
      · rename_i a b cc z0 z1 z2 z3
        cases h
        obtain ⟨z0, z4⟩ := Bool.and_eq_true_iff.mp z0
        obtain ⟨tgk, hsc, kind, room, gok, gd, cok, rfl, rfl, rfl, rfl, rfl, _⟩ := c
        exact ps_imp (ps_asg (ih _ _ z3) (pg_sub (ih _ _ z1) (ih _ _ z2) (set_any (ca := ca) (by omega)) (asg_sub z4)) (sw_not z0) (sub_sw _ _) rfl) fun D st H t => sub_read t
      · cases h
    · split at h
      · rename_i a cc z0 z1 z2
        cases h
        obtain ⟨tgk, hsc, kind, room, gok, gd, cok, rfl, rfl, rfl, rfl, rfl, _⟩ := c
        exact ps_imp (ps_is (ih _ _ z1) (ih _ _ z2) (sw_att z0)) fun D st H t => sta_read (G := G) (fun c I z => by rw [hca, hdn, dnOf_at z]; exact cok.cls c I z) t
      · cases h
    · split at h
      · rename_i t ie z1 z2 z3
        cases h
        exact asg_step hE hT c tk z1 z2 z3
      · cases h
  · cases h
    exact ps_imp ps_retN fun D st H t => by
      obtain ⟨ia, sl, h, R, S, q⟩ := t
      exact q [] H .non (Grow.refl ia H) (by rw [app_nil]; exact R) .non
  · obtain ⟨ie, e1, e2⟩ := Option.map_eq_some_iff.mp h
    subst e2
    exact ps_imp (ps_ret (ih _ _ e1)) fun D st H t => ret_read t
  · split at h
    · rename_i ic x y z1 z2 z3
      cases h
      obtain ⟨tgk, hsc, kind, room, gok, gd, cok, rfl, rfl, rfl, rfl, rfl, _⟩ := c
      exact ps_imp (ps_if (iht _ _ z1) (ihs _ _ z2) (ihs _ _ z3)) fun D st H t => if_read t
    · cases h
  · split at h
    · rename_i k es t b z0 z1 z2 z3
      cases h
      have hi := d_src (ca := ca) (W := wE E) (ev := (run G n).e d) c.scope c.gok (fun e ie he => by rw [c.hK]; exact ih e ie he) z1
      have hg := d_tg (ca := ca) c.tg z2
      rw [c.hK] at hi hg
      refine ps_imp (ps_for (tb := fun D st H => ∃ m, m ≤ n ∧ tS K ca (wE E) ((run G m).s d b) D st H) hp c.tg.calm hi hg ⟨fun pins s st H D I ⟨m', hm, t⟩ => (hS m' hm X N sc d E m _ b c tk hp z3).run pins s st H D I t⟩ (noSet_fold z0 _)) fun D st H t => ?_
      exact for_read (es := es) (evL ((run G n).e d) es) t
    · cases h
  · split at h
    · rename_i ic b z1 z2
      cases h
      refine ps_imp (ps_while (tc := fun st H Q => ∃ m, m ≤ n ∧ tOfB K ca (wE E) ((run G m).t d ic) st H Q) (tb := fun D st H => ∃ m, m ≤ n ∧ tS K ca (wE E) ((run G m).s d b) D st H) hp
        ⟨fun pins s st H Q I ⟨m', hm, t⟩ => (hT m' hm X N sc sc d E m _ ic c tk z1).run pins s st H Q I t⟩ ⟨fun pins s st H D I ⟨m', hm, t⟩ => (hS m' hm X N sc d E m _ b c tk hp z2).run pins s st H D I t⟩) fun D st H t => ?_
      exact while_read t
    · cases h
  · cases h
    exact ps_imp ps_break fun D st H t => by
      obtain ⟨ia, sl, h, R, S, q⟩ := t
      exact q [] H st (Grow.refl ia H) (by rw [app_nil]; exact R) (by rw [app_nil]; exact S)
  · cases h
    exact ps_imp ps_continue fun D st H t => by
      obtain ⟨ia, sl, h, R, S, q⟩ := t
      exact q [] H st (Grow.refl ia H) (by rw [app_nil]; exact R) (by rw [app_nil]; exact S)
  · cases h
    exact ps_imp ps_pass fun D st H t => by
      obtain ⟨ia, sl, h, R, S, q⟩ := t
      exact WantS.nxNow q R S
  · split at h
    · rename_i i z0 z1 z2
      cases h
      obtain ⟨z0, z3⟩ := Bool.and_eq_true_iff.mp z0
      obtain ⟨z0, z4⟩ := Bool.and_eq_true_iff.mp z0
      obtain ⟨tgk, hsc, kind, room, gok, gd, cok, rfl, rfl, rfl, rfl, rfl, _⟩ := c
      obtain ⟨h1, h2⟩ := cok.err _ z1
      exact d_rse (fun _ => by rw [hca]) (fun _ => cok.errs _ h2) h2 tgk.calm (room.mono (Nat.zero_le _)) (glob_of hsc z4) h1 z3 z0 tk (ih _ _ z2)
    · cases h
      exact ps_imp ps_never fun D st H t => by
        obtain ⟨ia, sl, h, R, S, q⟩ := t
        exact q
  · cases h
    exact ps_imp ps_never fun D st H t => by
      obtain ⟨ia, sl, h, R, S, q⟩ := t
      exact q
  · cases h
theorem s_step (hca : ca.fn = He.ga K) (hdn : ca.dn = dnOf G.cls) (hE : ∀ m, m ≤ n → EOk P w K mg base g G ca m) (hT : ∀ m, m ≤ n → TOk P w K mg base g G ca m) (hS : ∀ m, m ≤ n → SOk P w K mg base g G ca m) : SOk P w K mg base g G ca (n + 1) := by
  intro X N sc d E m sts ib c tk hp h
  show PSs X sts (tS K ca (wE E) (stS G (run G n) d ib))
  cases sts with
  | nil =>
    have : ib = [] := by
      cases m <;> (cases h; rfl)
    subst this
    exact pss_imp pss_nil fun D st H t => by
      obtain ⟨ia, sl, h, R, S, q⟩ := t
      exact WantS.nxNow q R S
  | cons st rest =>
    cases m with
    | zero => cases h
    | succ m =>
      unfold trS at h
      split at h
      · rename_i i is z1 z2
        cases h
        refine pss_imp (pss_cons (s1_step hca hdn hE hT hS c tk hp z1) (hS n (Nat.le_refl n) X N sc d E m rest is c tk hp z2)) fun D st H t => ?_
        exact tS.seq (m := stS1 G (run G n) d i) (m2 := (run G n).s d is) t
      · rename_i is z1 z2
        cases h
        refine pss_imp (pss_cons (t := fun _ _ _ => False) ps_never (hS n (Nat.le_refl n) X N sc d E m rest is c tk hp z2)) fun D st H t => ?_
        obtain ⟨ia, sl, h, R, S, q⟩ := t
        exact q
      · cases h
end
end Mi

set_option Elab.async false
set_option linter.all false
set_option maxRecDepth 100000
set_option maxHeartbeats 4000000
/-! D21: all of it. -/
namespace Mi
open PySem L2 PyProof.Rows
/-- the defs' texts -/
structure DefB (K : PySem.W.Frag) (L : Addr → Str → Prop) (g : Glo) (G : Prg) (k : Nat) (D : DefI) (f : Addr) (fd : FuncData) (ps : List Str) (nm qual : Str) (st : Stmt) (N : List Str) (m : Nat) : Prop where
  at_ : G.defs[k]? = some D
  fn : ∃ dvs kws, FunD K nm qual (defArgs st) (defBody st) (defScope st) dvs kws f fd
  sc : FnScope N ps (defScope st)
  ps : D.ps = ps.length
  n : D.n = N.length
  body : trS g N m (defScope st) (defBody st) = some D.body
  lm : tabS g (defScope st) = true → ∃ c, fd.code = .ref c ∧ L c qual
structure DefOk (K : PySem.W.Frag) (L : Addr → Str → Prop) (mg : Str → Option Value) (g : Glo) (G : Prg) (x : Str) (k : Nat) (D : DefI) (f : Addr) (fd : FuncData) (ps : List Str) (nm qual : Str) (st : Stmt) (N : List Str) (m : Nat) : Prop where
  b : DefB K L g G k D f fd ps nm qual st N m
  mg : mg x = some (.ref f)
  bi : Binds K fd ps []
/-- a class's defs -/
def ClsDefs (K : PySem.W.Frag) (L : Addr → Str → Prop) (g : Glo) (G : Prg) : Prop := ∀ c I, G.cls.lookup c = some I →
  (∀ m k, I.meths.lookup m = some k → ∃ D f fd ps nm qual st N mm, DefB K L g G k D f fd ps nm qual st N mm ∧ Meth K (He.ga K c) m f ∧ DflK K fd ps D.dfl) ∧
  (∀ a k, I.props.lookup a = some k → ∃ D f fd ps nm qual st N mm, DefB K L g G k D f fd ps nm qual st N mm ∧ PropK K (He.ga K c) a f ∧ Binds K fd ps []) ∧
  ∃ D f fd ps nm qual st N mm, DefB K L g G I.init D f fd ps nm qual st N mm ∧ L2.Mk K (He.ga K c) f ∧ DflK K fd ps D.dfl
def DefsOk (K : PySem.W.Frag) (L : Addr → Str → Prop) (mg : Str → Option Value) (g : Glo) (G : Prg) : Prop := (∀ (x : Str) (k : Nat), g.lookup x = some (.fn k) → ∃ D f fd ps nm qual st N m, DefOk K L mg g G x k D f fd ps nm qual st N m) ∧
  ∀ (x c m : Str) (k : Nat), g.lookup x = some (.st c m k) → mg c = some (.ref (He.ga K c)) ∧ ∃ D f fd ps nm qual st N mm, DefB K L g G k D f fd ps nm qual st N mm ∧ StK K (He.ga K c) m f ∧ Binds K fd ps []
section
variable {P : Program} {w : World} {K : PySem.W.Frag} {mg : Str → Option Value} {base : Heap} {g : Glo} {G : Prg} {ca : CaT} {n : Nat} {L : Addr → Str → Prop}
/-- the tables of the defs that make lambdas -/
def TabsOk (mg : Str → Option Value) (base : Heap) (ca : CaT) (L : Addr → Str → Prop) : Prop := ∀ c q, L c q → ∃ P, LamX.TabB base mg c P ∧ (P, q ++ ".<locals>." ++ "<lambda>") ∈ ca.T ∧ ∀ p ∈ ca.T, p.1 = P → p.2 = q ++ ".<locals>." ++ "<lambda>"
theorem rs_start {ia : List Addr} {H : Hp} {args : List Val} {vs : List V} {N : List Str} (r : RVs K ia H args vs) : RS K ia H (args.map some ++ List.replicate (N.length - args.length) none) (L2.start N vs) := by
  have hl := r.len
  refine ⟨by simp [L2.start, hl], fun i v e => ?_⟩
  by_cases hi : i < args.length
  · rw [List.getElem?_append_left (by simpa using hi), List.getElem?_map] at e
    obtain ⟨v', e1, e2⟩ := Option.map_eq_some_iff.mp e
    cases e2
    obtain ⟨y, e3, ry⟩ := r.get e1
    refine ⟨y, ?_, ry⟩
    unfold L2.start
    rw [List.getElem?_append_left (by simp; omega), List.getElem?_map, e3]
    rfl
  · rw [List.getElem?_append_right (by simp; omega)] at e
    have := List.mem_of_getElem? e
    simp at this
theorem def_ok (tb : TabsOk mg base ca L) (gok : GOk g K mg) (cok : COk P K mg g G) {k : Nat} {D : DefI} {f : Addr} {fd : FuncData} {ps : List Str} {nm qual : Str} {st : Stmt} {N : List Str} {m : Nat} (h : DefB K L g G k D f fd ps nm qual st N m) (hS : SOk P w K mg base g G ca n) (d : Nat) :
    FnG P w K mg base (L2.CX P w) (d + 1) f fd ps (spC K ca ((run G (n + 1)).c d k)) := by
  have e0 : ∀ (args : List Val) (hh : LH), (run G (n + 1)).c d k args hh = (match decide (args.length = D.ps) with
    | false => .bad
    | true => (match (run G n).s d D.body (args.map some ++ List.replicate (D.n - args.length) none) hh with
      | .rt v h1 => .ok v h1
      | .nx _ h1 => .ok .non h1
      | .exc c v _ h1 => .exc c v h1
      | _ => .bad)) := by
    intro args hh
    show stC G (run G n) d k args hh = _
    unfold stC
    first
      | (rw [h.at_]; done)
      | (rw [h.at_]; rfl)
  obtain ⟨dv, kw, hfn⟩ := h.fn
  refine fnG_of hfn h.sc (fun vs H Q E q => ?_) (fun cdv A outer s H vs Q E hcd hgd hr q => ?_)
  · obtain ⟨ia, hh, args, R, r, q⟩ := q
    rw [e0] at q
    cases hd : decide (args.length = D.ps) with
    | false => rw [hd] at q; exact (show False from q).elim
    | true =>
      rw [← r.len, of_decide_eq_true hd, h.ps]
  · obtain ⟨ia, hh, args, R, r, q⟩ := q
    rw [e0] at q
    refine ⟨tS K ca (wE E) ((run G n).s d D.body), ?_, ?_⟩
    · refine hS _ N (defScope st) d E m _ D.body ⟨⟨rfl, h.sc.nd, rfl, fun y hy => ⟨?_, .inl rfl⟩⟩, rfl, h.sc.kind, hr, gok, hgd, cok, rfl, rfl, rfl, rfl, rfl, fun z => by
        obtain ⟨c, e1, e2⟩ := h.lm z
        obtain ⟨P0, t1, t2, t3⟩ := tb c qual e2
        exact ⟨c, P0, t1, hcd.symm.trans e1, t2, t3⟩⟩ (takes_of rfl rfl rfl rfl) (passes_of rfl) h.body
      unfold locB at hy
      split at hy
      · exact .inl (by assumption)
      · exact .inr (by assumption)
      · cases hy
    · refine ⟨ia, _, hh, R, rs_start (N := N) r, ?_⟩
      cases hd : decide (args.length = D.ps) with
      | false => rw [hd] at q; exact (show False from q).elim
      | true =>
        rw [hd, h.n] at q
        dsimp only at q
        cases e : (run G n).s d D.body (args.map some ++ List.replicate (N.length - args.length) none) hh with
        | bad => rw [e] at q; exact q
        | bk _ _ => rw [e] at q; exact (show False from q).elim
        | ct _ _ => rw [e] at q; exact (show False from q).elim
        | rt v h1 => rw [e] at q; exact q
        | nx sl h1 =>
          rw [e] at q
          exact fun ka H' st g R' S' => q ka H' .non g R' .non
        | exc c v sl h1 =>
          rw [e] at q
          exact fun ka H' d w st g R' hd r' S' => q ka H' d w g R' hd r'
theorem c_step (tb : TabsOk mg base ca L) (gok : GOk g K mg) (cok : COk P K mg g G) (dok : DefsOk K L mg g G) (hS : SOk P w K mg base g G ca n) : FnsOk P w K mg base g G ca (n + 1) := by
  refine ⟨fun x k hx => ?_, fun x c m k hx => ?_⟩
  · obtain ⟨D, f, fd, ps, nm, qual, st, N, m, h⟩ := dok.1 x k hx
    exact ⟨f, fd, ps, h.mg, h.b.fn.choose_spec.choose_spec.kp, h.bi, fun d => def_ok tb gok cok h.b hS d⟩
  · obtain ⟨h0, D, f, fd, ps, nm, qual, st, N, mm, h1, h2, h3⟩ := dok.2 x c m k hx
    exact ⟨h0, f, fd, ps, h2, h3, fun d => def_ok tb gok cok h1 hS d⟩
theorem m_step (tb : TabsOk mg base ca L) (hca : ca.fn = He.ga K) (gok : GOk g K mg) (cok : COk P K mg g G) (cd : ClsDefs K L g G) (hS : SOk P w K mg base g G ca n) : MthsOk P w K mg base G ca (n + 1) := by
  intro c I hI
  obtain ⟨h1, h2, D, f, fd, ps, nm, qual, st, N, mm, h3, h4, h5⟩ := cd c I hI
  rw [hca] at *
  refine ⟨fun m k z => ?_, fun a k z => ?_, f, fd, ps, D, h4, fun d => def_ok tb gok cok h3 hS d, h3.at_, h5⟩
  · obtain ⟨D, f, fd, ps, nm, qual, st, N, mm, h3, h4, h5⟩ := h1 m k z
    exact ⟨f, fd, ps, D, h4, fun d => def_ok tb gok cok h3 hS d, h3.at_, h5⟩
  · obtain ⟨D, f, fd, ps, nm, qual, st, N, mm, h3, h4, h5⟩ := h2 a k z
    exact ⟨f, fd, ps, h4, fun d => def_ok tb gok cok h3 hS d, h5⟩
theorem fn_none {K : PySem.W.Frag} {ca : CaT} {CX : CXT} {d k : Nat} {f : Addr} {fd : FuncData} {ps : List Str} : FnG P w K mg base CX (d + 1) f fd ps (spC K ca ((run G 0).c d k)) :=
  ⟨fun vs H Q E q => by obtain ⟨_, _, _, _, _, q⟩ := q; exact (show False from q).elim, fun A outer s H args us vs Q E _ _ _ _ _ q => by obtain ⟨_, _, _, _, _, q⟩ := q; exact (show False from q).elim⟩
theorem all_ok (tb : TabsOk mg base ca L) (hca : ca.fn = He.ga K) (hdn : ca.dn = dnOf G.cls) (gok : GOk g K mg) (cok : COk P K mg g G) (dok : DefsOk K L mg g G) (cd : ClsDefs K L g G) : ∀ n, (∀ m, m ≤ n → EOk P w K mg base g G ca m) ∧ (∀ m, m ≤ n → TOk P w K mg base g G ca m) ∧ (∀ m, m ≤ n → SOk P w K mg base g G ca m) ∧ FnsOk P w K mg base g G ca n ∧ ∀ m, m ≤ n → MthsOk P w K mg base G ca m
  | 0 => by
    refine ⟨fun m hm => ?_, fun m hm => ?_, fun m hm => ?_, ⟨fun x k hx => ?_, fun x c m k hx => ?_⟩, fun m hm c I hI => ?_⟩
    · cases Nat.le_zero.mp hm
      intro X N sc scL d E m e ie c tk h
      exact ⟨fun pins s st H Q I t => by obtain ⟨_, _, _, _, _, _, q⟩ := t; exact (show False from q).elim⟩
    · cases Nat.le_zero.mp hm
      intro X N sc scL d E m e ie c tk h
      exact ⟨fun pins s st H Q I t => by obtain ⟨_, _, _, _, _, _, q⟩ := t; exact (show False from q).elim⟩
    · cases Nat.le_zero.mp hm
      intro X N sc d E m e ie c tk hp h
      exact ⟨fun pins s st H D I t => by obtain ⟨_, _, _, _, _, q⟩ := t; exact (show False from q).elim⟩
    · obtain ⟨D, f, fd, ps, nm, qual, st, N, m, h⟩ := dok.1 x k hx
      exact ⟨f, fd, ps, h.mg, h.b.fn.choose_spec.choose_spec.kp, h.bi, fun d => fn_none⟩
    · obtain ⟨h0, D, f, fd, ps, nm, qual, st, N, mm, h1, h2, h3⟩ := dok.2 x c m k hx
      exact ⟨h0, f, fd, ps, h2, h3, fun d => fn_none⟩
    · cases Nat.le_zero.mp hm
      obtain ⟨h1, h2, D, f, fd, ps, nm, qual, st, N, mm, h3, h4, h5⟩ := cd c I hI
      refine ⟨fun m k z => ?_, fun a k z => ?_, f, fd, ps, D, by rw [hca]; exact h4, fun d => fn_none, h3.at_, h5⟩
      · obtain ⟨D, f, fd, ps, nm, qual, st, N, mm, h3, h4, h5⟩ := h1 m k z
        exact ⟨f, fd, ps, D, by rw [hca]; exact h4, fun d => fn_none, h3.at_, h5⟩
      · obtain ⟨D, f, fd, ps, nm, qual, st, N, mm, h3, h4, h5⟩ := h2 a k z
        exact ⟨f, fd, ps, by rw [hca]; exact h4, fun d => fn_none, h5⟩
  | n + 1 => by
    obtain ⟨hE, hT, hS, hF, hM⟩ := all_ok tb hca hdn gok cok dok cd n
    have k : ∀ {p : Nat → Prop}, (∀ m, m ≤ n → p m) → p (n + 1) → ∀ m, m ≤ n + 1 → p m := fun {p} a b m hm => by
      rcases Nat.lt_or_ge n m with z | z
      · have : m = n + 1 := by omega
        subst this
        exact b
      · exact a m z
    exact ⟨k hE (e_step hca hdn hE hT hF (hM n (Nat.le_refl n))), k hT (t_step hca hdn hE hT hM), k hS (s_step hca hdn hE hT hS), c_step tb gok cok dok (hS n (Nat.le_refl n)), k hM (m_step tb hca gok cok cd (hS n (Nat.le_refl n)))⟩
end
end Mi

set_option Elab.async false
set_option linter.all false
set_option maxRecDepth 100000
set_option maxHeartbeats 2000000
/-! H1: the head's facts, read off the written part. -/
namespace Mi
open PySem L2 PyProof.Rows
/-- the objects that the names reach -/
def nxA (g : Addr → Option Obj) (as : List Addr) : List Addr := as.flatMap fun a => match g a with
  | some o => He.refsD o
  | none => []
def asN (g : Addr → Option Obj) (names : List Str) : List Addr :=
  let a1 := names.map (He.ga (He.frG g [mainGlobals]))
  let a2 := nxA g a1
  let a3 := nxA g a2
  let a4 := nxA g a3
  [mainGlobals, cStatics, sysModules] ++ (a1 ++ (a2 ++ (a3 ++ a4)))
/-- the text of an __init__ -/
abbrev FnI : Type := Option (Str × Str × Arguments × FuncBody × Scope)
def initA (K : PySem.W.Frag) (x : Str) : Addr := He.ma K (He.ga K x) "__init__"
def initO (K : PySem.W.Frag) (x : Str) : FnI := match K.lookup (initA K x) with
  | some ⟨_, _, .func fd, _⟩ => some (fd.name, fd.qualname, fd.params, fd.body, fd.scope)
  | _ => none
/-- the class object -/
def clsB (K : PySem.W.Frag) (C : Addr) : Bool := match K.lookup C with
  | some ⟨.type t, _, .cls cd, sl⟩ => decide (t = "type") && (cd.hasDict && (!cd.hasDel && ((match cd.mro with
    | .ref c :: bm => decide (c = C) && PySem.HandSPX.refsVE bm
    | _ => false) && (match sl.toList with
    | [_, _, _, _, some (.builtin i), _] => decide (i = "ValueError.__new__")
    | _ => false))))
  | _ => false
theorem clsB_ok {K : PySem.W.Frag} {C : Addr} (h : clsB K C = true) : ∃ nm q N bs bm sn sub ab col dd k0 k1 k2 k3 k5, K.lookup C = some (excClassObj nm q C N bs bm true sn sub ab col dd k0 k1 k2 k3 k5 "ValueError.__new__") ∧ PySem.HandSPX.refsVE bm = true := by
  unfold clsB at h
  split at h
  · rename_i t dd cd sl hl
    simp only [Bool.and_eq_true, decide_eq_true_eq, Bool.not_eq_true'] at h
    obtain ⟨rfl, h1, h2, h3, h4⟩ := h
    split at h3
    · rename_i c bm hm
      simp only [Bool.and_eq_true, decide_eq_true_eq] at h3
      obtain ⟨rfl, h3⟩ := h3
      split at h4
      · rename_i k0 k1 k2 k3 i k5 hs
        have hi := of_decide_eq_true h4
        subst hi
        obtain ⟨nm, bs, mro, ns, qn, hd, sn, sb, ab, col, del⟩ := cd
        dsimp only at h1 h2 hm
        subst h1 h2 hm
        obtain ⟨l⟩ := sl
        have hs' : l = _ := hs
        subst hs'
        exact ⟨nm, qn, ns, bs, bm, sn, sb, ab, col, dd, k0, k1, k2, k3, k5, hl, h3⟩
      · cases h4
    · cases h3
  · cases h
def fnIB (file : Str) (K : PySem.W.Frag) (D fI : Addr) : Bool := match K.lookup fI with
  | some ⟨_, _, .func fd, _⟩ => (match fd.defaults with
      | .none => true
      | _ => false) && (decide (fd.globals = mainGlobals) && (decide (fd.builtins = builtinsNs) && (match fd.code, fd.closure with
    | .ref cda, [(n, cc)] => decide (n = ("__class__" : Str)) && (PySem.W.codeIn K (.ref cda) fd.qualname && ((match K.lookup cda with
        | some (Obj.mk _ _ (Data.fields vs) _) => (match (vs[2]? : Option Value) with
          | some (Value.str f _) => file == f
          | _ => false)
        | _ => false) && (match K.lookup cc with
        | some ⟨_, _, .cell (some (.ref d)), _⟩ => decide (d = D)
        | _ => false)))
    | _, _ => false)))
  | _ => false
/-- what is checked of an own exception class -/
def errB (P : Program) (K : PySem.W.Frag) (x0 x : Str) : Bool :=
  let C := He.ga K x
  let D := He.ga K x0
  let fI := initA K x
  clsB K C && (fnIB P.main.file K D fI && (decide (initA K x0 = fI) && ((PySem.W.clsIn K D).isSome && (
    He.eqO (PySem.W.findIn K (.ref C) "__init__") (some (some (.ref fI))) && (decide (PySem.W.typeIn K (.ref fI) = some (.type "function")) && (He.eqO (PySem.W.findIn K (.ref C) "__setattr__") (some (some (.builtin "object.__setattr__"))) && (
    decide (PySem.W.subIn K (.ref C) (.type "BaseException") = some true) && (decide (PySem.W.typeIn K (.ref C) = some (.type "type")) && (PySem.W.keepIn K (.ref C) && (decide (PySem.W.mroIn K C (.ref D) = some true) && (
    He.eqO (PySem.W.nsIn K mainGlobals "super") (some none) && (He.eqO (PySem.W.nsIn K cStatics "thirdparty.any") (some none) && (He.eqO (PySem.W.ks_superIn K C D "__init__") (some (some (.builtin "ValueError.__init__"))) && (
    decide (PySem.W.subIn K (.ref C) (.type "ValueError") = some true) && (He.eqO (PySem.W.findIn K (.ref C) "value") (some none) && (xfB K C && (
    He.eqO (PySem.W.findIn K (.ref C) "__class__") (some (some (.builtin "object.__class__"))) && (He.eqO (PySem.W.specialIn K (.builtin "object.__class__") "__get__") (some (some (.builtin "getset_descriptor.__get__"))) && (
    decide (PySem.W.takesIn K (.builtin "object.__class__") = some true) && (decide (PySem.W.mroIn K C (.type "object") = some true) && !(P.main.scope.names.lookup ("super" : Str)).isSome))))))))))))))))))))
/-- what is checked of the __init__'s text (by the text's own terms) -/
structure InitT (iI : FnI) : Prop where
  ex : ∃ (qual : Str) (params : Arguments) (scope : Scope) (p0 p1 p2 p3 p4 p5 p6 p7 p8 p9 : Pos), iI = some (("__init__" : Str), qual, params, FuncBody.stmts (initBody p0 p1 p2 p3 p4 p5 p6 p7 p8 p9), scope) ∧
    (∀ (kV doc pm : Value) (an : Option Addr) (ct : Value) (cc cda : Addr) (a b : Value), bindArgs (PySem.W.ksFn "__init__" qual params (initBody p0 p1 p2 p3 p4 p5 p6 p7 p8 p9) scope .none kV doc pm an (.ref cda) ct cc) ⟨[a, b], []⟩ = pure [(("self" : Str), a), (("value" : Str), b)]) ∧
    (∃ ar, (params.posonlyargs ++ params.args).head? = some ar ∧ ar.arg = "self") ∧ (∀ y ∈ scope.names, y.2 ≠ .cell) ∧ scope.isCoroutine = false ∧ scope.isGenerator = false ∧ scope.kind = .function ∧
    scope.names.lookup ("super" : Str) = some .globalImplicit ∧ scope.names.lookup ("__class__" : Str) = some .free ∧ scope.names.lookup ("self" : Str) = some .local ∧ scope.names.lookup ("value" : Str) = some .local ∧ (p2.endLine == p4.line) = true
theorem errB_ok {P : Program} {K : PySem.W.Frag} {x0 x : Str} {iI : FnI} (T : InitT iI) (hi : initO K x0 = iI) (h : errB P K x0 x = true) : ErrK P K (He.ga K x) := by
  unfold errB at h
  dsimp only at h
  simp only [Bool.and_eq_true, decide_eq_true_eq, Bool.not_eq_true'] at h
  obtain ⟨c1, c2, c3, c4, c5, c6, c7, c8, c9, c10, c11, c12, c13, c14, c15, c16, c17, c18, c19, c20, c21, c22⟩ := h
  have xf := xfB_ok c17
  have exC := c8
  refine ⟨⟨initA K x, He.ga K x0, ⟨clsB_ok c1, He.eqO_ok c7, c8, c9, c10⟩, He.eqO_ok c5, c6, ?_, c11, He.eqO_ok c12, He.eqO_ok c13, He.eqO_ok c14, c15, He.eqO_ok c16, c22⟩, xf, ⟨xf.ga, xf.gg, xf.exC, xf.hdC, He.eqO_ok c18, He.eqO_ok c19, c20, c21⟩, He.eqO_ok c16⟩
  obtain ⟨qual, params, scope, p0, p1, p2, p3, p4, p5, p6, p7, p8, p9, e0, tb, ta, t1, t2, t3, t4, t5, t6, t7, t8, t9⟩ := T.ex
  unfold initO at hi
  rw [c3] at hi
  unfold fnIB at c2
  split at c2
  · rename_i oc od fd osl hl
    rw [hl, e0] at hi
    obtain ⟨n1, n2, n3, n4, n5, n6, n7, n8, n9, n10, n11, n12, n13, n14, n15⟩ := fd
    have e2 : (some (n1, n2, n3, n4, n5) : FnI) = some (("__init__" : Str), qual, params, .stmts (initBody p0 p1 p2 p3 p4 p5 p6 p7 p8 p9), scope) := hi
    simp only [Option.some.injEq, Prod.mk.injEq] at e2
    obtain ⟨rfl, rfl, rfl, rfl, rfl⟩ := e2
    simp only [Bool.and_eq_true, decide_eq_true_eq] at c2
    obtain ⟨d1, d2, d3, d4⟩ := c2
    split at d1
    · subst d2 d3
      split at d4
      · rename_i cda n cc
        simp only [Bool.and_eq_true, decide_eq_true_eq] at d4
        obtain ⟨rfl, d5, d6, d7⟩ := d4
        split at d6
        · rename_i ccl cdd vs ccs hk
          split at d6
          · rename_i file tf hv
            split at d7
            · rename_i cl cld dd csl hce
              have hd := of_decide_eq_true d7
              subst hd
              obtain ⟨cdD, hcd⟩ := Option.isSome_iff_exists.mp c4
              exact ⟨oc, od, _, _, _, _, _, _, _, _, cc, cda, osl, p0, p1, p2, p3, p4, p5, p6, p7, p8, p9, hl, d5, tb _ _ _ _ _ _ _, ta, ⟨ccl, cdd, vs, ccs, file, tf, hk, hv, d6⟩, ⟨cl, cld, csl, hce⟩, ⟨cdD, hcd⟩, t1, t2, t3, t4, t5, t6, t7, t8, t9⟩
            · cases d7
          · cases d6
        · cases d6
      · cases d4
    · cases d1
  · cases c2
end Mi

set_option Elab.async false
set_option linter.all false
set_option maxRecDepth 100000
set_option maxHeartbeats 2000000
/-! H2: the head's Hook; a law's end. -/
namespace Mi
open PySem L2 PyProof.Rows
/-! ### the Hook -/
abbrev AlM : Type := He.AlD × Bool × FnI
def clsAll (P : Program) (K : PySem.W.Frag) (x0 : Str) (errs : List Str) (tI : List (ClR × List (ClR × Bool))) : Bool :=
  (match K.lookup sysModules with
    | some o => decide (o.cls = .type "dict")
    | none => false) && (errs.all (fun x => errB P K x0 x) && tI.all fun p => p.2.all fun q => decide (PySem.W.kitOne K (clV K p.1) (clV K q.1) = some q.2))
def obsM (P : Program) (names : List Str) (fa : List He.Fa) (fn : List He.DefD) (x0 : Str) (errs : List Str) (tI : List (ClR × List (ClR × Bool))) (g : Addr → Option Obj) : AlM :=
  let K := He.frG g (asN g names)
  (He.obsD fa fn K, clsAll P K x0 errs tI, initO K x0)
def hookM (P : Program) (names : List Str) (fa : List He.Fa) (fn : List He.DefD) (x0 : Str) (errs : List Str) (tI : List (ClR × List (ClR × Bool))) (iI : FnI) : PySem.W.Hook where
  α := AlM
  obs := fun s => obsM P names fa fn x0 errs tI s.heap.get?
  val := fun _ => (He.valD fn, true, iI)
  says := fun _ h => ∃ K : PySem.W.Frag, K.In h ∧ He.SaysD fa fn K ∧ clsAll P K x0 errs tI = true ∧ initO K x0 = iI
  of := fun _ _ e => ⟨_, He.frG_in, congrArg (fun z : AlM => z.1) e, congrArg (fun z : AlM => z.2.1) e, congrArg (fun z : AlM => z.2.2) e⟩
  keeps := fun _ _ _ ⟨K, hK, c⟩ k => ⟨K, PySem.W.Frag.In.keeps hK k, c⟩
theorem obsM_eq {P : Program} {names : List Str} {fa : List He.Fa} {fn : List He.DefD} {x0 : Str} {errs : List Str} {tI : List (ClR × List (ClR × Bool))} {iI : FnI} {g : Addr → Option Obj} {s : Shared} (h : ∀ a, g a = s.heap.get? a) :
    obsM P names fa fn x0 errs tI g = (hookM P names fa fn x0 errs tI iI).obs s := by
  have e : g = s.heap.get? := funext h
  rw [e] <;> rfl
/-- a def of the Hook, as the walk takes it -/
theorem fun_of {K : PySem.W.Frag} {x qual : Str} {st : Stmt} {f : Addr} {fd : FuncData} (F : FunD K x qual (defArgs st) (defBody st) (defScope st) [] [] f fd) : Fun K x qual st f fd := by
  obtain ⟨oc, od, dV, kV, doc, pm, an, cdv, ct, osl, e, lk, hcd, hD, hK⟩ := F.ex
  rcases hD with ⟨_, rfl⟩ | ⟨z, _⟩
  · exact ⟨⟨oc, od, kV, doc, pm, an, cdv, ct, osl, e, lk, hcd⟩, F.kp⟩
  · exact absurd rfl z
/-- the classes, of the Hook's answers -/
theorem cok_of {P : Program} {K : PySem.W.Frag} {mg : Str → Option Value} {g : Glo} {G : Prg} {x0 : Str} {iI : FnI} {h : Heap} (X : K.In h) (N : h.Ns mainGlobals mg) (T : InitT iI) (hi : initO K x0 = iI) (c : clsAll P K x0 G.errs G.isiT = true)
    (hg : ∀ x, g.lookup x = some .err → G.errs.contains x = true ∧ (He.Fa.glo x).ok K = true)
    (hcl : ∀ c I, G.cls.lookup c = some I → ClsK K (He.ga K c) (dnI I) I) (hco : ∀ c I, G.cls.lookup c = some I → OpsK K (He.ga K c)) (htl : ∀ x scs, g.lookup x = some (.tld scs) → TldK K mg x G.errs) (hcg : ∀ x, g.lookup x = some .cls → (He.Fa.glo x).ok K = true ∧ ∃ I, G.cls.lookup x = some I) : COk P K mg g G := by
  unfold clsAll at c
  simp only [Bool.and_eq_true] at c
  obtain ⟨c1, c2, c3⟩ := c
  refine ⟨fun x hx => ⟨He.glo_ok X N (hg x hx).2, (hg x hx).1⟩, fun x hx => ?_, fun t d b hb => ?_, ?_, hcl, hco, htl, fun x hx => ⟨He.glo_ok X N (hcg x hx).1, (hcg x hx).2⟩⟩
  · exact errB_ok T hi (List.all_eq_true.mp c2 x (by simpa using hx))
  · unfold isiL at hb
    split at hb
    · rename_i p ep
      obtain ⟨q, e1, e2⟩ := Option.map_eq_some_iff.mp hb
      have h1 := List.find?_some ep
      have h1 : p.1 = t := of_decide_eq_true h1
      have h2 := List.find?_some e1
      have h2 : q.1 = d := of_decide_eq_true h2
      have hq := of_decide_eq_true (List.all_eq_true.mp (List.all_eq_true.mp c3 p (List.mem_of_find?_eq_some ep)) q (List.mem_of_find?_eq_some e1))
      rw [h1, h2] at hq
      rw [← e2]
      exact hq
    · cases hb
  · split at c1
    · rename_i o ho
      exact ⟨o, ho, of_decide_eq_true c1⟩
    · cases c1
/-! ### a law's end -/
theorem law_callG {P : Program} {w : World} {K : PySem.W.Frag} {mg mb : Str → Option Value} {CX : CXT} {k : Nat} {fa a : Addr} {fd : FuncData} {x : Str} {sp : Sp} {s1 : Shared} {vs : List Value} {ns : List Int}
    (KX : K.In s1.heap) (hns : s1.heap.Ns mainGlobals mg) (hb : s1.heap.Ns builtinsNs mb) (hbb : ∀ x : Str, x ≠ "__name__" → mb x = bootBuiltins x) (hlim : s1.heap.NoLimit) (hg : s1.gens = #[])
    (ha : s1.heap.get? a = some { cls := .type "list", data := .seq vs.toArray }) (hi : IntsAre vs ns) (hl : ns.length ≤ sizeLine) (hr : Room k callerA)
    (F : ∀ base : Heap, K.In base → base.Ns mainGlobals mg → FnG P w K mg base CX k fa fd [x] sp) (hbind : ∀ (s : Shared) (u : Value), BindsTo s fd ⟨[u], []⟩ [(x, u)])
    (hsp : ∀ H : Hp, (∀ b, H b = none ∨ ∃ o xs, H b = some (.frz o (.lst xs))) → FzL K H a (ns.map V.int) → sp [.ref a] H (fun v _ => v = .bl true) fun _ _ _ => False)
    (hCX : ∀ H e s', CX [] H s1 (fun _ _ _ => False) e s' → False) :
    codeAny (model P w) callerA (.call (.ref fa) ⟨[.ref a], []⟩) (fun r s' => r = .ok (.ret (.bool true)) ∧ OldK s1.heap s'.heap ∧ s'.os = s1.os ∧ AllBare s'.gens) s1 := by
  have rv := vals_ints hi
  -- the walk over an abstract heap that tracks at most the script, frozen
  have go : ∀ H : Hp, (∀ b, H b = none ∨ b = a ∧ ∃ xs, H b = some (.frz { cls := .type "list", data := .seq vs.toArray } (.lst xs))) → FzL K H a (ns.map V.int) → HOk P w H s1.heap → (H a ≠ none → K.lookup a = none) →
      codeAny (model P w) callerA (.call (.ref fa) ⟨[.ref a], []⟩) (fun r s' => r = .ok (.ret (.bool true)) ∧ OldK s1.heap s'.heap ∧ s'.os = s1.os ∧ AllBare s'.gens) s1 := by
    intro H only hS hok hK
    have notDict : ∀ {b : Addr} {o : Obj} {es : Array DictEntry} {ep : Nat}, s1.heap.get? b = some o → o.data = .dict es ep → H b = none := by
      intro b o es ep e d
      rcases only b with z | ⟨rfl, _⟩
      · exact z
      · rw [ha] at e
        cases e
        have d' : Data.seq vs.toArray _ = Data.dict es ep := d
        cases d'
    have lift : ∀ {b : Addr} {m : Str → Option Value}, s1.heap.Ns b m → (hidT s1.heap H).Ns b m := fun {b m} ⟨o, es, ep, e, d, r⟩ => ⟨o, es, ep, hidT_get e (notDict e d), d, r⟩
    have KB : K.In (hidT s1.heap H) := fun b o e => hidT_get (KX b o e) (by
      rcases only b with z | ⟨rfl, xs, z⟩
      · exact z
      · have n := hK (by rw [z]; simp)
        rw [n] at e
        cases e)
    have hM : Mod K mg (hidT s1.heap H) := ⟨KB, lift hns, ⟨mb, lift hb, hbb⟩, let ⟨mc, h1, h2⟩ := hlim; ⟨mc, lift h1, h2⟩⟩
    have e0 : Env0 P w K mg (hidT s1.heap H) callerA [] s1 H := ⟨rfl, hM, fun b o e => of_hidT e, Nat.le_of_eq (hidT_size _ _), trivial, fun b hb => absurd (show b ∈ ([] : List Addr) from hb) (by simp), hok, .of_eq hg⟩
    have only' : ∀ b, H b = none ∨ ∃ o xs, H b = some (.frz o (.lst xs)) := fun b => (only b).imp id fun ⟨_, xs, z⟩ => ⟨_, xs, z⟩
    refine codeAny_mono ((F _ KB (lift hns)).run callerA [] s1 H ⟨[.ref a], []⟩ [.ref a] [.ref a] _ _ rfl hr e0 (hbind s1 (.ref a)) (.cons rfl .nil) (hsp H only' hS)) fun r s' h => ?_
    match r, h with
    | .error e, h => exact (hCX H e s' h).elim
    | .ok (.ret u), ⟨v, H', os, bare, un, hok', r', q⟩ =>
      obtain rfl : v = .bl true := q
      obtain rfl : u = Value.bool true := r'
      refine ⟨rfl, OldK.of_keep fun b o e => ?_, os, bare⟩
      rcases only b with z | ⟨rfl, xs, z⟩
      · exact un.keep b o e z (by simp [frs]) (by simp)
      · obtain ⟨e1, _⟩ := hok' _ _ (un.frzs _ _ _ z)
        rw [ha] at e
        cases e
        exact e1
  cases hk : K.lookup a with
  | some o =>
    have e := KX a o hk
    rw [ha] at e
    cases e
    exact go (fun _ => none) (fun _ => .inl rfl) (.inr ⟨_, vs.toArray, _, hk, rfl, rfl, rfl, by rw [List.size_toArray, hi.length]; exact hl, by simpa using rv⟩) (fun b u z => nomatch (show (none : Option HO) = some u from z)) fun z => absurd rfl z
  | none =>
    refine go (fun b => if b = a then some (.frz { cls := .type "list", data := .seq vs.toArray } (.lst (ns.map V.int))) else none) (fun b => ?_) (.inl ⟨{ cls := .type "list", data := .seq vs.toArray }, if_pos rfl⟩) (fun b u z => ?_) fun _ => hk
    · by_cases hb : b = a
      · exact .inr ⟨hb, _, if_pos hb⟩
      · exact .inl (if_neg hb)
    · by_cases hb : b = a
      · have z' := (if_pos hb).symm.trans z
        cases z'
        subst hb
        exact ⟨ha, by rw [List.length_map]; exact hl, vs, _, rv, ha⟩
      · have z' := (if_neg hb).symm.trans z
        cases z'
theorem walk_ofG {l : PySem.W.OpenLaw} {n k : Nat} {q : Program} {loose : List Str} {XP : (Str → Option Value) → Heap → Prop} {YP : World → Heap → Prop} {d : DefRec} {CX : World → CXT} {x : Str}
    (hn : l.most = some n) (hn2 : n ≤ sizeLine) (hdf : d.params.defaults = []) (hr : Room k callerA)
    (F : ∀ (w : World) (mg : Str → Option Value) (fa : Addr) (h : Heap), YP w h → h.Ns mainGlobals mg → mg d.name = some (.ref fa) →
      ∃ (K : PySem.W.Frag) (fd : FuncData) (sp : Sp), K.In h ∧ (∀ (s : Shared) (u : Value), BindsTo s fd ⟨[u], []⟩ [(x, u)]) ∧
        (∀ (H : Hp) (a : Addr) (ns : List Int), ns.length ≤ n → (∀ b, H b = none ∨ ∃ o xs, H b = some (.frz o (.lst xs))) → FzL K H a (ns.map V.int) → sp [.ref a] H (fun v _ => v = .bl true) fun _ _ _ => False) ∧
        ∀ base : Heap, K.In base → base.Ns mainGlobals mg → FnG l.prog w K mg base (CX w) k fa fd [x] sp)
    (hCX : ∀ (w : World) (H : Hp) (s : Shared) (e : Value) (s' : Shared), CX w [] H s (fun _ _ _ => False) e s' → False) :
    PySem.W.WalkO q loose XP YP l.row.toRowW d [] (fun f vs => PySem.call f vs) := by
  refine Att.attach_call hn hdf fun w s₀ s₁ mg mb fa o pm cd doc a vs ns G Y ho hd hcd hmg hobj hints hlen hg => ?_
  obtain ⟨K, fd, sp, KX, hb, hsp, hF⟩ := F w mg fa _ Y G.T.g hmg
  exact law_callG KX G.T.g G.T.b G.T.builtins G.T.nolimit hg hobj hints (Nat.le_trans hlen hn2) hr hF hb (fun H hO hS => hsp H a ns hlen hO hS) fun H e s' => hCX w H s₁ e s'
end Mi

set_option Elab.async false
set_option linter.all false
set_option maxRecDepth 100000
set_option maxHeartbeats 2000000
/-! H3: the head's facts of own classes with slots, and of their properties. -/
namespace Mi
open PySem L2 PyProof.Rows SlX
def slotB (K : PySem.W.Frag) (C : Addr) (f : Str) (i : Nat) : Bool := match PySem.W.findIn K (.ref C) f with
  | some (some (.ref p)) => He.eqO (PySem.W.specialIn K (.ref p) "__get__") (some (some (.builtin "member_descriptor.__get__"))) && (decide (PySem.W.takesIn K (.ref p) = some true) && (decide (PySem.W.typeIn K (.ref p) = some (.type "member_descriptor")) && (decide (PySem.W.slotIn K p C = some i) && decide (i < 1000))))
  | _ => false
theorem slotB_ok {K : PySem.W.Frag} {C : Addr} {f : Str} {i : Nat} (h : slotB K C f i = true) : ∃ p, Slot1 K C f p i := by
  unfold slotB at h
  split at h
  · rename_i p hp
    simp only [Bool.and_eq_true, decide_eq_true_eq] at h
    obtain ⟨h1, h2, h3, h4, h5⟩ := h
    exact ⟨p, hp, He.eqO_ok h1, h2, h3, h4, h5⟩
  · cases h
def slotsB (K : PySem.W.Frag) (C : Addr) : List Str → Nat → Bool
  | [], _ => true
  | f :: fs, i => slotB K C f i && slotsB K C fs (i + 1)
theorem slotsB_ok {K : PySem.W.Frag} {C : Addr} : ∀ {fs : List Str} {n : Nat}, slotsB K C fs n = true → ∀ (i : Nat) (f : Str), fs[i]? = some f → ∃ p, Slot1 K C f p (n + i)
  | [], _, _, i, f, e => by simp at e
  | g :: fs, n, h, 0, f, e => by
    simp at e
    subst e
    exact slotB_ok (Bool.and_eq_true_iff.mp h).1
  | g :: fs, n, h, i + 1, f, e => by
    have := slotsB_ok (Bool.and_eq_true_iff.mp h).2 i f (by simpa using e)
    rw [show n + (i + 1) = n + 1 + i by omega]
    exact this
/-- what is checked of a class with slots -/
def opsB (K : PySem.W.Frag) (C : Addr) : Bool :=
  decide (PySem.W.mroIn K C (.type "object") = some true) && (He.eqO (PySem.W.findIn K (.ref C) "__ne__") (some (some (.builtin "object.__ne__"))) && (PySem.W.selfFirst K C && (decide (PySem.W.subIn K (.ref C) (.type "int") = some false) && (decide (PySem.W.subIn K (.type "int") (.ref C) = some false) && (["add", "sub", "mul"].all fun nm => (PySem.W.findIn K (.type "int") (PySem.dunder nm)).isSome && (PySem.W.findIn K (.type "int") (dunderR nm)).isSome)))))
theorem opsB_ok {K : PySem.W.Frag} {C : Addr} (h : opsB K C = true) : OpsK K C := by
  unfold opsB at h
  simp only [Bool.and_eq_true, decide_eq_true_eq] at h
  obtain ⟨h5, h6, h1, h2, h3, h4⟩ := h
  refine ⟨h5, He.eqO_ok h6, h1, h2, h3, fun nm hn => ?_⟩
  have z := List.all_eq_true.mp h4 nm (by rcases hn with rfl | rfl | rfl <;> simp)
  simp only [Bool.and_eq_true] at z
  obtain ⟨fo, e1⟩ := Option.isSome_iff_exists.mp z.1
  obtain ⟨ro, e2⟩ := Option.isSome_iff_exists.mp z.2
  exact ⟨fo, ro, e1, e2⟩
def isiB (K : PySem.W.Frag) (C : Addr) : Bool :=
  He.eqO (PySem.W.findIn K (.ref C) "__class__") (some (some (.builtin "object.__class__"))) && (He.eqO (PySem.W.specialIn K (.builtin "object.__class__") "__get__") (some (some (.builtin "getset_descriptor.__get__"))) && (decide (PySem.W.takesIn K (.builtin "object.__class__") = some true) && decide (PySem.W.mroIn K C (.type "object") = some true)))
theorem isiB_ok {K : PySem.W.Frag} {C : Addr} (h : isiB K C = true) : SIsi K C := by
  unfold isiB at h
  simp only [Bool.and_eq_true, decide_eq_true_eq] at h
  obtain ⟨h1, h2, h3, h4⟩ := h
  exact ⟨He.eqO_ok h1, He.eqO_ok h2, h3, h4⟩
def fldB (K : PySem.W.Frag) (C : Addr) (I : ClsI) : Bool := match I.dict with
  | true => PySem.W.hasDictIn K C && ((I.slots.all fun f => He.eqO (PySem.W.findIn K (.ref C) f) (some none)) && (decide I.slots.Nodup && (decide (I.slots.length < 1000) && I.meths.all fun p => !decide (p.1 ∈ I.slots))))
  | false => slotsB K C I.slots 0
theorem fldB_ok {K : PySem.W.Frag} {C : Addr} {I : ClsI} (h : fldB K C I = true) : (dnI I ≠ none → PySem.W.hasDictIn K C = true) ∧ (∀ f i, slotI I f = some i → Fld K C (dnI I) f i) ∧ ∀ m k, I.meths.lookup m = some k → NoF (dnI I) m := by
  unfold fldB at h
  have hs : ∀ f i, slotI I f = some i → I.slots[i]? = some f := fun f i e => by
    unfold slotI at e
    obtain ⟨hi, hp, _⟩ := List.findIdx?_eq_some_iff_getElem.mp e
    have hf : I.slots[i] = f := of_decide_eq_true hp
    rw [List.getElem?_eq_getElem hi, hf]
  cases hd : I.dict with
  | true =>
    rw [hd] at h
    have hdn : dnI I = some I.slots := by unfold dnI; rw [hd]; rfl
    rw [hdn]
    simp only [Bool.and_eq_true, decide_eq_true_eq] at h
    obtain ⟨h1, h2, h3, h4, h5⟩ := h
    refine ⟨fun _ => h1, fun f i e => ?_, fun m k e ns z => ?_⟩
    · have e1 := hs f i e
      exact ⟨e1, He.eqO_ok (List.all_eq_true.mp h2 f (List.mem_of_getElem? e1)), h3, h4⟩
    · cases z
      have := List.all_eq_true.mp h5 _ (PySem.mem_of_lookup e)
      simpa using this
  | false =>
    rw [hd] at h
    have hdn : dnI I = none := by unfold dnI; rw [hd]; rfl
    rw [hdn]
    refine ⟨fun z => absurd rfl z, fun f i e => ?_, fun m k e ns z => by cases z⟩
    have := slotsB_ok h i f (hs f i e)
    rw [Nat.zero_add] at this
    exact this
def slcB (K : PySem.W.Frag) (c : Str) (I : ClsI) : Bool :=
  PySem.W.plainGet K (He.ga K c) Str.empty && (PySem.W.isClsIn K (He.ga K c) && (PySem.W.plainOver K (He.ga K c) && (He.eqO (PySem.W.findIn K (.ref (He.ga K c)) "__setattr__") (some (some (.builtin "object.__setattr__"))) && (opsB K (He.ga K c) && (isiB K (He.ga K c) && fldB K (He.ga K c) I)))))
theorem slcB_ok {K : PySem.W.Frag} {c : Str} {I : ClsI} (h : slcB K c I = true) : ClsK K (He.ga K c) (dnI I) I ∧ OpsK K (He.ga K c) := by
  unfold slcB at h
  simp only [Bool.and_eq_true] at h
  obtain ⟨h1, h2, h3, h4, h6, h7, h5⟩ := h
  obtain ⟨f1, f2, f3⟩ := fldB_ok h5
  exact ⟨⟨⟨h1, h2, h3, He.eqO_ok h4, f1⟩, isiB_ok h7, f2, f3⟩, opsB_ok h6⟩
/-! ### properties -/
/-- the getter's place -/
def prA (K : PySem.W.Frag) (c f : Str) : Addr := match PySem.W.findIn K (.ref (He.ga K c)) f with
  | some (some (.ref p)) => (match PySem.W.recIn K p "property" with
    | some (.ref g :: _) => g
    | _ => (match PySem.W.recIn K p "staticmethod" with
      | some (.ref g :: _) => g
      | _ => 0))
  | _ => 0
structure PrD where
  cls : Str
  f : Str
  name : Str
  qual : Str
  params : Arguments
  body : List Stmt
  scope : Scope
  stat : Bool := false
/-- what is checked of a staticmethod -/
def statB (K : PySem.W.Frag) (C : Addr) (f : Str) (a : Addr) : Bool := PySem.W.readsIn K C (.type "type") && (He.eqO (PySem.W.specialIn K (.ref C) "__getattribute__") (some (some (.builtin "type.__getattribute__"))) && (match PySem.W.findCls K (.ref C) (.type "type") f with
  | some (.get u (.ref p) .none (.ref D)) => (match u with
    | .builtin n => decide (n = "staticmethod.__get__")
    | _ => false) && (decide (D = C) && (match PySem.W.recIn K p "staticmethod" with
    | some (.ref g :: _) => decide (g = a)
    | _ => false))
  | _ => false))
theorem statB_ok {K : PySem.W.Frag} {C a : Addr} {f : Str} (h : statB K C f a = true) (kp : PySem.W.keepIn K (.ref a) = true) : StK K C f a := by
  unfold statB at h
  simp only [Bool.and_eq_true] at h
  obtain ⟨h1, h2, h3⟩ := h
  split at h3
  · rename_i u p D hq
    simp only [Bool.and_eq_true, decide_eq_true_eq] at h3
    obtain ⟨h4, h5, h6⟩ := h3
    split at h4
    · split at h6
      · rename_i n _ g rest hr
        have e1 := of_decide_eq_true h4
        have e2 := of_decide_eq_true h6
        subst e1 e2 h5
        exact ⟨h1, He.eqO_ok h2, ⟨p, rest, hq, hr⟩, kp⟩
      · cases h6
    · cases h4
  · cases h3
def PrD.val (d : PrD) : He.FnW := some (d.name, d.qual, d.params, .stmts d.body, d.scope, mainGlobals, [], builtinsNs)
def prW (K : PySem.W.Frag) (d : PrD) : He.FnW := match K.lookup (prA K d.cls d.f) with
  | some ⟨_, _, .func fd, _⟩ => some (fd.name, fd.qualname, fd.params, fd.body, fd.scope, fd.globals, fd.closure, fd.builtins)
  | _ => none
def PrD.ok (K : PySem.W.Frag) (d : PrD) : Bool := PySem.W.keepIn K (.ref (prA K d.cls d.f)) && ((match K.lookup (prA K d.cls d.f) with
  | some ⟨_, _, .func fd, _⟩ => PySem.W.codeIn K fd.code d.qual && (He.dflB K fd.defaults [] && He.kwdB K fd.kwdefaults [])
  | _ => false) && (match d.stat with
  | true => statB K (He.ga K d.cls) d.f (prA K d.cls d.f)
  | false => match PySem.W.findIn K (.ref (He.ga K d.cls)) d.f with
  | some (some (.ref p)) => He.eqO (PySem.W.specialIn K (.ref p) "__get__") (some (some (.builtin "property.__get__"))) && (decide (PySem.W.takesIn K (.ref p) = some true) && (match PySem.W.recIn K p "property" with
    | some (.ref g :: _) => decide (g = prA K d.cls d.f)
    | _ => false))
  | _ => false))
theorem PrD.st {K : PySem.W.Frag} {d : PrD} (c : d.ok K = true) (hs : d.stat = true) : StK K (He.ga K d.cls) d.f (prA K d.cls d.f) := by
  unfold PrD.ok at c
  rw [hs] at c
  simp only [Bool.and_eq_true] at c
  exact statB_ok c.2.2 c.1
theorem PrD.prop {K : PySem.W.Frag} {d : PrD} (c : d.ok K = true) (hs : d.stat = false) : PropK K (He.ga K d.cls) d.f (prA K d.cls d.f) := by
  unfold PrD.ok at c
  rw [hs] at c
  simp only [Bool.and_eq_true] at c
  obtain ⟨_, _, c⟩ := c
  split at c
  · rename_i p hp
    simp only [Bool.and_eq_true, decide_eq_true_eq] at c
    obtain ⟨h1, h2, h3⟩ := c
    split at h3
    · rename_i g rest hg
      have hg' := of_decide_eq_true h3
      exact ⟨p, rest, hp, He.eqO_ok h1, h2, by rw [hg, hg']⟩
    · cases h3
  · cases c
theorem PrD.funD {K : PySem.W.Frag} {d : PrD} (e : prW K d = d.val) (c : d.ok K = true) : ∃ fd, FunD K d.name d.qual d.params d.body d.scope [] [] (prA K d.cls d.f) fd := by
  unfold PrD.ok at c
  simp only [Bool.and_eq_true] at c
  obtain ⟨kp, c2, _⟩ := c
  unfold prW at e
  split at c2
  · rename_i oc od fd osl q
    rw [q] at e
    obtain ⟨n1, n2, n3, n4, n5, n6, n7, n8, n9, n10, n11, n12, n13, n14, n15⟩ := fd
    have e2 : (some (n1, n2, n3, n4, n5, n6, n7, n15) : He.FnW) = some (d.name, d.qual, d.params, .stmts d.body, d.scope, mainGlobals, [], builtinsNs) := e
    simp only [Option.some.injEq, Prod.mk.injEq] at e2
    obtain ⟨h1, h2, h3, h4, h5, h6, h7, h8⟩ := e2
    subst h1 h2 h3 h4 h5 h6 h7 h8
    simp only [Bool.and_eq_true] at c2
    exact ⟨_, ⟨oc, od, n8, n9, n10, n11, n12, n13, n14, osl, rfl, q, c2.1, He.dflB_ok c2.2.1, He.kwdB_ok c2.2.2⟩, kp⟩
  · cases c2
/-! ### the Hook -/
abbrev AlN : Type := AlM × Bool × List He.FnW
/-- one more step of reach -/
def asP (g : Addr → Option Obj) (names : List Str) : List Addr := let a := asN g names
  a ++ nxA g a
def obsN (P : Program) (names : List Str) (fa : List He.Fa) (fn : List He.DefD) (x0 : Str) (errs : List Str) (tI : List (ClR × List (ClR × Bool))) (cI : List (Str × ClsI)) (pr : List PrD) (g : Addr → Option Obj) : AlN :=
  let K := He.frG g (asP g names)
  ((He.obsD fa fn K, clsAll P K x0 errs tI, initO K x0), ((cI.all fun p => slcB K p.1 p.2) && pr.all fun d => d.ok K), pr.map fun d => prW K d)
def SaysN (P : Program) (fa : List He.Fa) (fn : List He.DefD) (x0 : Str) (errs : List Str) (tI : List (ClR × List (ClR × Bool))) (iI : FnI) (cI : List (Str × ClsI)) (pr : List PrD) (K : PySem.W.Frag) : Prop :=
  He.SaysD fa fn K ∧ clsAll P K x0 errs tI = true ∧ initO K x0 = iI ∧ ((cI.all fun p => slcB K p.1 p.2) && pr.all fun d => d.ok K) = true ∧ (pr.map fun d => prW K d) = pr.map PrD.val
def hookN (P : Program) (names : List Str) (fa : List He.Fa) (fn : List He.DefD) (x0 : Str) (errs : List Str) (tI : List (ClR × List (ClR × Bool))) (iI : FnI) (cI : List (Str × ClsI)) (pr : List PrD) : PySem.W.Hook where
  α := AlN
  obs := fun s => obsN P names fa fn x0 errs tI cI pr s.heap.get?
  val := fun _ => ((He.valD fn, true, iI), true, pr.map PrD.val)
  says := fun _ h => ∃ K : PySem.W.Frag, K.In h ∧ SaysN P fa fn x0 errs tI iI cI pr K
  of := fun _ _ e => ⟨_, He.frG_in, congrArg (fun z : AlN => z.1.1) e, congrArg (fun z : AlN => z.1.2.1) e, congrArg (fun z : AlN => z.1.2.2) e, congrArg (fun z : AlN => z.2.1) e, congrArg (fun z : AlN => z.2.2) e⟩
  keeps := fun _ _ _ ⟨K, hK, c⟩ k => ⟨K, PySem.W.Frag.In.keeps hK k, c⟩
theorem obsN_eq {P : Program} {names : List Str} {fa : List He.Fa} {fn : List He.DefD} {x0 : Str} {errs : List Str} {tI : List (ClR × List (ClR × Bool))} {iI : FnI} {cI : List (Str × ClsI)} {pr : List PrD} {g : Addr → Option Obj} {s : Shared} (h : ∀ a, g a = s.heap.get? a) :
    obsN P names fa fn x0 errs tI cI pr g = (hookN P names fa fn x0 errs tI iI cI pr).obs s := by
  have e : g = s.heap.get? := funext h
  rw [e] <;> rfl
theorem SaysN.pr {P : Program} {fa : List He.Fa} {fn : List He.DefD} {x0 : Str} {errs : List Str} {tI : List (ClR × List (ClR × Bool))} {iI : FnI} {cI : List (Str × ClsI)} {pr : List PrD} {K : PySem.W.Frag} (c : SaysN P fa fn x0 errs tI iI cI pr K) {d : PrD} (hd : d ∈ pr) :
    (d.stat = false → PropK K (He.ga K d.cls) d.f (prA K d.cls d.f)) ∧ (d.stat = true → StK K (He.ga K d.cls) d.f (prA K d.cls d.f)) ∧ ∃ fd, FunD K d.name d.qual d.params d.body d.scope [] [] (prA K d.cls d.f) fd := by
  obtain ⟨_, _, _, c4, c5⟩ := c
  have ok := List.all_eq_true.mp (Bool.and_eq_true_iff.mp c4).2 d hd
  obtain ⟨i, hi, e⟩ := List.getElem_of_mem hd
  have z : (pr.map fun d => prW K d)[i]? = (pr.map PrD.val)[i]? := by rw [c5]
  rw [List.getElem?_map, List.getElem?_map, List.getElem?_eq_getElem hi, e] at z
  exact ⟨PrD.prop ok, PrD.st ok, PrD.funD (Option.some.inj z) ok⟩
theorem SaysN.cl {P : Program} {fa : List He.Fa} {fn : List He.DefD} {x0 : Str} {errs : List Str} {tI : List (ClR × List (ClR × Bool))} {iI : FnI} {cI : List (Str × ClsI)} {pr : List PrD} {K : PySem.W.Frag} (c : SaysN P fa fn x0 errs tI iI cI pr K) {x : Str} {I : ClsI} (h : cI.lookup x = some I) : ClsK K (He.ga K x) (dnI I) I ∧ OpsK K (He.ga K x) := by
  obtain ⟨_, _, _, c4, _⟩ := c
  exact slcB_ok (List.all_eq_true.mp (Bool.and_eq_true_iff.mp c4).1 (x, I) (PySem.mem_of_lookup h))
end Mi

set_option Elab.async false
set_option linter.all false
set_option maxRecDepth 100000
set_option maxHeartbeats 2000000
/-! H4: a law's end where defs make lambdas. -/
namespace Mi
open PySem L2 PyProof.Rows LamX
theorem law_callGT {P : Program} {w : World} {K : PySem.W.Frag} {mg mb : Str → Option Value} {CX : CXT} {k : Nat} {fa a : Addr} {cs : List (Addr × Addr)} {fd : FuncData} {x : Str} {sp : Sp} {s1 : Shared} {vs : List Value} {ns : List Int}
    (KX : K.In s1.heap) (hns : s1.heap.Ns mainGlobals mg) (hb : s1.heap.Ns builtinsNs mb) (hbb : ∀ x : Str, x ≠ "__name__" → mb x = bootBuiltins x) (hlim : s1.heap.NoLimit) (hg : s1.gens = #[])
    (hT : ∀ p ∈ cs, s1.heap.get? p.2 = some { cls := .none, data := .fields #[] }) (nT : ∀ p ∈ cs, K.lookup p.2 = none) (C : ∀ p ∈ cs, PySem.W.CodeHd s1.heap p.1 p.2)
    (hbm : ∃ (bm : Addr) (ob : Obj), mg "__builtins__" = some (.ref bm) ∧ bm ≠ builtinsNs ∧ s1.heap.get? bm = some ob ∧ ob.cls = .type "module" ∧ ob.dict = some builtinsNs ∧ ob.data = .plain)
    (ha : s1.heap.get? a = some { cls := .type "list", data := .seq vs.toArray }) (hi : IntsAre vs ns) (hl : ns.length ≤ sizeLine) (hr : Room k callerA)
    (F : ∀ base : Heap, K.In base → base.Ns mainGlobals mg → (∀ p ∈ cs, TabB base mg p.1 p.2) → FnG P w K mg base CX k fa fd [x] sp) (hbind : ∀ (s : Shared) (u : Value), BindsTo s fd ⟨[u], []⟩ [(x, u)])
    (hsp : ∀ H : Hp, (∀ p ∈ cs, H p.2 = some (.tbl #[])) → FzL K H a (ns.map V.int) → sp [.ref a] H (fun v _ => v = .bl true) fun _ _ _ => False)
    (hCX : ∀ H e s', CX [] H s1 (fun _ _ _ => False) e s' → False) :
    codeAny (model P w) callerA (.call (.ref fa) ⟨[.ref a], []⟩) (fun r s' => r = .ok (.ret (.bool true)) ∧ OldK s1.heap s'.heap ∧ s'.os = s1.os ∧ AllBare s'.gens) s1 := by
  have rv := vals_ints hi
  have memT : ∀ p ∈ cs, p.2 ∈ cs.map (·.2) := fun p hp => List.mem_map.mpr ⟨p, hp, rfl⟩
  have isT : ∀ b : Addr, b ∈ cs.map (·.2) → s1.heap.get? b = some { cls := .none, data := .fields #[] } := fun b hb => by
    obtain ⟨p, hp, e⟩ := List.mem_map.mp hb
    rw [← e]
    exact hT p hp
  have aT : a ∉ cs.map (·.2) := fun z => by
    have q := isT a z
    rw [ha] at q
    have z' : Data.seq vs.toArray _ = Data.fields #[] := congrArg Obj.data (Option.some.inj q)
    cases z'
  have core : ∀ H : Hp, (∀ p ∈ cs, H p.2 = some (.tbl #[])) → (∀ b, H b = none ∨ b ∈ cs.map (·.2) ∨ b = a ∧ ∃ xs, H b = some (.frz { cls := .type "list", data := .seq vs.toArray } (.lst xs))) → FzL K H a (ns.map V.int) → HOk P w H s1.heap → (H a ≠ none → K.lookup a = none) →
      codeAny (model P w) callerA (.call (.ref fa) ⟨[.ref a], []⟩) (fun r s' => r = .ok (.ret (.bool true)) ∧ OldK s1.heap s'.heap ∧ s'.os = s1.os ∧ AllBare s'.gens) s1 := by
    intro H hH only hS hok hK
    have base_of : ∀ {b : Addr} {o : Obj}, s1.heap.get? b = some o → H b = none → (hidT s1.heap H).get? b = some o := fun e n => hidT_get e n
    have noD : ∀ {b : Addr} {o : Obj}, s1.heap.get? b = some o → (∀ vs n, o.data ≠ .seq vs n) → o.data ≠ .fields #[] → H b = none := fun {b o} e h1 h2 => by
      rcases only b with z | z | ⟨rfl, _⟩
      · exact z
      · rw [isT b z] at e
        cases e
        exact (h2 rfl).elim
      · rw [ha] at e
        cases e
        exact (h1 _ _ rfl).elim
    have lift : ∀ {b : Addr} {m : Str → Option Value}, s1.heap.Ns b m → (hidT s1.heap H).Ns b m := fun {b m} ⟨o, es, ep, e, d, r⟩ => ⟨o, es, ep, base_of e (noD e (fun vs n z => by rw [d] at z; cases z) fun z => by rw [d] at z; cases z), d, r⟩
    have KB : K.In (hidT s1.heap H) := fun b o e => base_of (KX b o e) (by
      rcases only b with z | z | ⟨rfl, xs, z⟩
      · exact z
      · obtain ⟨p, hp, ep⟩ := List.mem_map.mp z
        rw [← ep, nT p hp] at e
        cases e
      · rw [hK (by rw [z]; simp)] at e
        cases e)
    have hM : Mod K mg (hidT s1.heap H) := ⟨KB, lift hns, ⟨mb, lift hb, hbb⟩, let ⟨mc, h1, h2⟩ := hlim; ⟨mc, lift h1, h2⟩⟩
    have TB : ∀ p ∈ cs, TabB (hidT s1.heap H) mg p.1 p.2 := fun p hp => by
      have hTp := hT p hp
      refine ⟨?_, ?_, fun z => ?_⟩
      · obtain ⟨o, us, file, tf, flags, tg, inF, text, tt, e1, r1, r2, r3, rest⟩ := C p hp
        refine ⟨o, us, file, tf, flags, tg, inF, text, tt, base_of e1 (noD e1 (fun vs n z => ?_) fun z => ?_), r1, r2, r3, rest⟩
        · rw [r2] at z
          cases z
        · rw [r2] at z
          cases z
          simp at r3
      · obtain ⟨bm, ob, b1, b2, b3, b4, b5, b6⟩ := hbm
        have nG : bm ≠ mainGlobals := fun q => by
          obtain ⟨o, es, ep, e, hd, _⟩ := hns
          rw [q, e] at b3
          cases b3
          rw [hd] at b6
          cases b6
        have nP : bm ≠ p.2 := fun q => by
          rw [q, hTp] at b3
          cases b3
          cases b6
        exact ⟨bm, ob, b1, b2, nG, nP, base_of b3 (noD b3 (fun vs n z => by rw [b6] at z; cases z) fun z => by rw [b6] at z; cases z), b4, b5, b6⟩
      · obtain ⟨o, es, ep, e, hd, _⟩ := hns
        rw [z, hTp] at e
        cases e
        cases hd
    have e0 : Env0 P w K mg (hidT s1.heap H) callerA [] s1 H := ⟨rfl, hM, fun b o e => of_hidT e, Nat.le_of_eq (hidT_size _ _), trivial, fun b hb => absurd (show b ∈ ([] : List Addr) from hb) (by simp), hok, .of_eq hg⟩
    refine codeAny_mono ((F _ KB (lift hns) TB).run callerA [] s1 H ⟨[.ref a], []⟩ [.ref a] [.ref a] _ _ rfl hr e0 (hbind s1 (.ref a)) (.cons rfl .nil) (hsp H hH hS)) fun r s' h => ?_
    match r, h with
    | .error e, h => exact (hCX H e s' h).elim
    | .ok (.ret u), ⟨v, H', os, bare, un, hok', r', q⟩ =>
      obtain rfl : v = .bl true := q
      obtain rfl : u = Value.bool true := r'
      have key : ∀ b o, b ∉ cs.map (·.2) → s1.heap.get? b = some o → s'.heap.get? b = some o := fun b o nb e => by
        rcases only b with z | z | ⟨rfl, xs, z⟩
        · exact un.keep b o e z (by simp [frs]) (by simp)
        · exact absurd z nb
        · obtain ⟨e1, _⟩ := hok' _ _ (un.frzs _ _ _ z)
          rw [ha] at e
          cases e
          exact e1
      have grown : ∀ p ∈ cs, ∃ more : Array Value, s'.heap.get? p.2 = some { cls := .none, data := .fields more } := fun p hp => by
        obtain ⟨more, z⟩ := un.tbls p.2 #[] (hH p hp)
        exact ⟨_, hok' p.2 _ z⟩
      refine ⟨rfl, ⟨fun b o e => ?_, fun b o e => ?_⟩, os, bare⟩
      · by_cases hb : b ∈ cs.map (·.2)
        · obtain ⟨p, hp, ep⟩ := List.mem_map.mp hb
          obtain ⟨more, hm⟩ := grown p hp
          rw [← ep] at e ⊢
          rw [hT p hp] at e
          cases e
          exact .inr (.inl ⟨((C p hp).tab (hT p hp)).isCodeTable, rfl, #[], more, rfl, by rw [Array.empty_append]; exact hm⟩)
        · exact .inl (key b o hb e)
      · by_cases hb : b ∈ cs.map (·.2)
        · obtain ⟨p, hp, ep⟩ := List.mem_map.mp hb
          obtain ⟨more, hm⟩ := grown p hp
          rw [← ep]
          exact ⟨_, hm⟩
        · exact ⟨o, key b o hb e⟩
  cases hk : K.lookup a with
  | some o =>
    have e := KX a o hk
    rw [ha] at e
    cases e
    refine core (fun b => if b ∈ cs.map (·.2) then some (.tbl #[]) else none) (fun p hp => if_pos (memT p hp)) (fun b => ?_) (.inr ⟨_, vs.toArray, _, hk, rfl, rfl, rfl, by rw [List.size_toArray, hi.length]; exact hl, by simpa using rv⟩) (fun b u z => ?_) fun z => absurd (show (if a ∈ cs.map (·.2) then some (HO.tbl #[]) else none) = none from if_neg aT) z
    · by_cases hb : b ∈ cs.map (·.2)
      · exact .inr (.inl hb)
      · exact .inl (if_neg hb)
    · by_cases hb : b ∈ cs.map (·.2)
      · have z' := (if_pos hb).symm.trans z
        cases z'
        exact isT b hb
      · have z' := (if_neg hb).symm.trans z
        cases z'
  | none =>
    refine core (fun b => if b = a then some (.frz { cls := .type "list", data := .seq vs.toArray } (.lst (ns.map V.int))) else if b ∈ cs.map (·.2) then some (.tbl #[]) else none) (fun p hp => (if_neg (show ¬ p.2 = a from fun z => aT (by rw [← z]; exact memT p hp))).trans (if_pos (memT p hp))) (fun b => ?_)
      (.inl ⟨{ cls := .type "list", data := .seq vs.toArray }, if_pos rfl⟩) (fun b u z => ?_) fun _ => hk
    · by_cases hb : b = a
      · exact .inr (.inr ⟨hb, _, if_pos hb⟩)
      · by_cases hb2 : b ∈ cs.map (·.2)
        · exact .inr (.inl hb2)
        · exact .inl ((if_neg hb).trans (if_neg hb2))
    · by_cases hb : b = a
      · have z' := (if_pos hb).symm.trans z
        cases z'
        rw [hb]
        exact ⟨ha, by rw [List.length_map]; exact hl, vs, _, rv, ha⟩
      · have z1 := (if_neg hb).symm.trans z
        by_cases hb2 : b ∈ cs.map (·.2)
        · have z' := (if_pos hb2).symm.trans z1
          cases z'
          exact isT b hb2
        · have z' := (if_neg hb2).symm.trans z1
          cases z'
/-- the code object and the table of the def x -/
def tabA (K : PySem.W.Frag) (x : Str) : Addr × Addr := (PySem.W.tabIn K x).getD (0, 0)
theorem walk_ofGT {l : PySem.W.OpenLaw} {n k : Nat} {q : Program} {loose : List Str} {XP : (Str → Option Value) → Heap → Prop} {YP : World → Heap → Prop} {d : DefRec} {CX : World → CXT} {x : Str} (lams : List Str)
    (hn : l.most = some n) (hn2 : n ≤ sizeLine) (hdf : d.params.defaults = []) (hr : Room k callerA) (hrec : ∀ y ∈ lams, ∃ r, (recsOf q).find? (fun e => e.name == y) = some r)
    (F : ∀ (w : World) (mg : Str → Option Value) (fa : Addr) (h : Heap), YP w h → h.Ns mainGlobals mg → mg d.name = some (.ref fa) →
      ∃ (K : PySem.W.Frag) (fd : FuncData) (sp : Sp), K.In h ∧ (∀ y ∈ lams, PySem.W.tabIn K y = some (tabA K y) ∧ K.lookup (tabA K y).2 = none) ∧ (∀ (s : Shared) (u : Value), BindsTo s fd ⟨[u], []⟩ [(x, u)]) ∧
        (∀ (H : Hp) (a : Addr) (ns : List Int), ns.length ≤ n → (∀ y ∈ lams, H (tabA K y).2 = some (.tbl #[])) → FzL K H a (ns.map V.int) → sp [.ref a] H (fun v _ => v = .bl true) fun _ _ _ => False) ∧
        ∀ base : Heap, K.In base → base.Ns mainGlobals mg → (∀ y ∈ lams, TabB base mg (tabA K y).1 (tabA K y).2) → FnG l.prog w K mg base (CX w) k fa fd [x] sp)
    (hCX : ∀ (w : World) (H : Hp) (s : Shared) (e : Value) (s' : Shared), CX w [] H s (fun _ _ _ => False) e s' → False) :
    PySem.W.WalkO q loose XP YP l.row.toRowW d [] (fun f vs => PySem.call f vs) := by
  refine Att.attach_call hn hdf fun w s₀ s₁ mg mb fa o pm cd doc a vs ns G Y ho hd hcd hmg hobj hints hlen hg => ?_
  obtain ⟨K, fd, sp, KX, ht, hb, hsp, hF⟩ := F w mg fa _ Y G.T.g hmg
  have tab : ∀ p ∈ lams.map (tabA K), PySem.W.CodeHd s₁.heap p.1 p.2 ∧ s₁.heap.get? p.2 = some (PySem.W.tabObj #[]) ∧ K.lookup p.2 = none := fun p hp => by
    obtain ⟨y, hy, e⟩ := List.mem_map.mp hp
    obtain ⟨r, er⟩ := hrec y hy
    obtain ⟨t1, t2⟩ := PySem.W.tab_of G.T KX er (ht y hy).1
    rw [← e]
    exact ⟨t1, t2, (ht y hy).2⟩
  exact law_callGT (cs := lams.map (tabA K)) KX G.T.g G.T.b G.T.builtins G.T.nolimit hg (fun p hp => (tab p hp).2.1) (fun p hp => (tab p hp).2.2) (fun p hp => (tab p hp).1) G.T.bmain hobj hints (Nat.le_trans hlen hn2) hr
    (fun base kb nb tb => hF base kb nb fun y hy => tb _ (List.mem_map.mpr ⟨y, hy, rfl⟩)) hb (fun H hH hS => hsp H a ns hlen (fun y hy => hH _ (List.mem_map.mpr ⟨y, hy, rfl⟩)) hS) fun H e s' => hCX w H s₁ e s'
end Mi

set_option Elab.async false
set_option linter.all false
set_option maxRecDepth 100000
set_option maxHeartbeats 2000000
/-! N6: more fuel, more depth: the same result. -/
namespace Mi
open PySem L2
def Lb {α : Type} (x y : Res α) : Prop := x = .bad ∨ y = x
def LbS (x y : RsS) : Prop := x = .bad ∨ y = x
theorem Lb.rfl' {α : Type} (x : Res α) : Lb x x := .inr rfl
theorem Lb.bind {α β : Type} {x y : Res α} {f g : α → LH → Res β} (a : Lb x y) (b : ∀ v h, Lb (f v h) (g v h)) : Lb (x.bind f) (y.bind g) := by
  rcases a with rfl | rfl
  · exact .inl rfl
  · cases y with
    | bad => exact .inl rfl
    | ok v h => exact b v h
    | exc c v h => exact .inr rfl
theorem LbS.ofR {x y : Res Val} {sl : LS} {f g : Val → LH → RsS} (a : Lb x y) (b : ∀ v h, LbS (f v h) (g v h)) : LbS (ofR x sl f) (ofR y sl g) := by
  rcases a with rfl | rfl
  · exact .inl rfl
  · cases y with
    | bad => exact .inl rfl
    | ok v h => exact b v h
    | exc c v h => exact .inr rfl
theorem LbS.ofRB {x y : Res Bool} {sl : LS} {f g : Bool → LH → RsS} (a : Lb x y) (b : ∀ v h, LbS (f v h) (g v h)) : LbS (ofRB x sl f) (ofRB y sl g) := by
  rcases a with rfl | rfl
  · exact .inl rfl
  · cases y with
    | bad => exact .inl rfl
    | ok v h => exact b v h
    | exc c v h => exact .inr rfl
theorem LbS.ofRL {x y : Res (List Val)} {sl : LS} {f g : List Val → LH → RsS} (a : Lb x y) (b : ∀ v h, LbS (f v h) (g v h)) : LbS (ofRL x sl f) (ofRL y sl g) := by
  rcases a with rfl | rfl
  · exact .inl rfl
  · cases y with
    | bad => exact .inl rfl
    | ok v h => exact b v h
    | exc c v h => exact .inr rfl
structure Le (k : Nat) (r q : EV) : Prop where
  e : ∀ d i sl h, Lb (r.e d i sl h) (q.e (d + k) i sl h)
  t : ∀ d i sl h, Lb (r.t d i sl h) (q.t (d + k) i sl h)
  s : ∀ d b sl h, LbS (r.s d b sl h) (q.s (d + k) b sl h)
  f : ∀ d tg b s i sl h, LbS (r.f d tg b s i sl h) (q.f (d + k) tg b s i sl h)
  w : ∀ d c b sl h, LbS (r.w d c b sl h) (q.w (d + k) c b sl h)
  l : ∀ d tg ifs el ow s i D sl h, Lb (r.l d tg ifs el ow s i D sl h) (q.l (d + k) tg ifs el ow s i D sl h)
  c : ∀ d j vs h, Lb (r.c d j vs h) (q.c (d + k) j vs h)
theorem le_none (k : Nat) (q : EV) : Le k EV.none q := ⟨fun _ _ _ _ => .inl rfl, fun _ _ _ _ => .inl rfl, fun _ _ _ _ => .inl rfl, fun _ _ _ _ _ _ _ => .inl rfl, fun _ _ _ _ _ => .inl rfl, fun _ _ _ _ _ _ _ _ _ _ => .inl rfl, fun _ _ _ _ => .inl rfl⟩
section
theorem evL_le {ev ev' : IE → LS → LH → Res Val} (g : ∀ i sl h, Lb (ev i sl h) (ev' i sl h)) : ∀ (is : List IE) (sl : LS) (h : LH), Lb (evL ev is sl h) (evL ev' is sl h)
  | [], _, _ => .inr rfl
  | i :: is, sl, h => (g i sl h).bind fun v h1 => (evL_le g is sl h1).bind fun vs h2 => .inr rfl
theorem evS_le {ev ev' : IE → LS → LH → Res Val} (g : ∀ i sl h, Lb (ev i sl h) (ev' i sl h)) : ∀ (bs : List Bool) (is : List IE) (sl : LS) (h : LH), Lb (evS ev bs is sl h) (evS ev' bs is sl h)
  | [], [], _, _ => .inr rfl
  | [], _ :: _, _, _ => .inr rfl
  | _ :: _, [], _, _ => .inr rfl
  | b :: bs, i :: is, sl, h => (g i sl h).bind fun v h1 => by
    cases b with
    | false => exact (evS_le g bs is sl h1).bind fun vs h2 => .inr rfl
    | true =>
      dsimp only
      cases seqA v h1 with
      | none => exact .inr rfl
      | some xs => exact (evS_le g bs is sl h1).bind fun vs h2 => .inr rfl
theorem evAn_le {ev ev' : IE → LS → LH → Res Val} (g : ∀ i sl h, Lb (ev i sl h) (ev' i sl h)) : ∀ (is : List IE) (sl : LS) (h : LH), Lb (evAn ev is sl h) (evAn ev' is sl h)
  | [], _, _ => .inr rfl
  | [i], sl, h => g i sl h
  | i :: j :: is, sl, h => (g i sl h).bind fun v h1 => by
    split
    · exact evAn_le g (j :: is) sl h1
    · exact .inr rfl
    · exact .inr rfl
theorem evOr_le {ev ev' : IE → LS → LH → Res Val} (g : ∀ i sl h, Lb (ev i sl h) (ev' i sl h)) : ∀ (is : List IE) (sl : LS) (h : LH), Lb (evOr ev is sl h) (evOr ev' is sl h)
  | [], _, _ => .inr rfl
  | [i], sl, h => g i sl h
  | i :: j :: is, sl, h => (g i sl h).bind fun v h1 => by
    split
    · exact .inr rfl
    · exact evOr_le g (j :: is) sl h1
    · exact .inr rfl
theorem tsAn_le {ev ev' : IE → LS → LH → Res Bool} (g : ∀ i sl h, Lb (ev i sl h) (ev' i sl h)) : ∀ (is : List IE) (sl : LS) (h : LH), Lb (tsAn ev is sl h) (tsAn ev' is sl h)
  | [], _, _ => .inr rfl
  | [i], sl, h => g i sl h
  | i :: j :: is, sl, h => (g i sl h).bind fun v h1 => by
    cases v with
    | true => exact tsAn_le g (j :: is) sl h1
    | false => exact .inr rfl
theorem tsOr_le {ev ev' : IE → LS → LH → Res Bool} (g : ∀ i sl h, Lb (ev i sl h) (ev' i sl h)) : ∀ (is : List IE) (sl : LS) (h : LH), Lb (tsOr ev is sl h) (tsOr ev' is sl h)
  | [], _, _ => .inr rfl
  | [i], sl, h => g i sl h
  | i :: j :: is, sl, h => (g i sl h).bind fun v h1 => by
    cases v with
    | true => exact .inr rfl
    | false => exact tsOr_le g (j :: is) sl h1
theorem tsIf_le {ev ev' : IE → LS → LH → Res Bool} (g : ∀ i sl h, Lb (ev i sl h) (ev' i sl h)) : ∀ (is : List IE) (sl : LS) (h : LH), Lb (tsIf ev is sl h) (tsIf ev' is sl h)
  | [], _, _ => .inr rfl
  | [i], sl, h => g i sl h
  | _ :: _ :: _, _, _ => .inr rfl
theorem calm_le {α : Type} {x y : Res α} (a : Lb x y) : Lb (calm x) (calm y) := by
  rcases a with rfl | rfl
  · exact .inl rfl
  · exact .inr rfl
theorem att_le {k : Nat} {r q : EV} (G : Prg) (g : Le k r q) (d : Nat) (v : Val) (f : Str) (h : LH) : Lb (stAtt G r d v f h) (stAtt G q (d + k) v f h) := by
  unfold stAtt
  cases attO G v f h with
  | none => exact .inr rfl
  | some a =>
    cases a with
    | inl _ => exact .inr rfl
    | inr j =>
      match d with
      | 0 => exact .inl rfl
      | 1 => exact .inl rfl
      | d' + 2 =>
        rw [show d' + 2 + k = (d' + k) + 2 by omega]
        exact calm_le (g.c d' j [v] h)
theorem mk_le {k : Nat} {r q : EV} (G : Prg) (g : Le k r q) (d : Nat) (c : Str) (vs : List Val) (h : LH) : Lb (stMk G r d c vs h) (stMk G q (d + k) c vs h) := by
  unfold stMk
  cases G.cls.lookup c with
  | none => exact .inr rfl
  | some I => exact (g.c d I.init _ _).bind fun v h1 => .inr rfl
theorem jsR_le {ev ev' : IE → LS → LH → Res Val} (g : ∀ i sl h, Lb (ev i sl h) (ev' i sl h)) : ∀ (is : List IE) (acc : Str) (sl : LS) (h : LH), Lb (jsR ev is acc sl h) (jsR ev' is acc sl h)
  | [], _, _, _ => .inr rfl
  | i :: is, acc, sl, h => (g i sl h).bind fun v h1 => by
    cases v with
    | str y =>
      show Lb (chk _ _) (chk _ _)
      cases decide ((acc ++ y).length ≤ sizeLine) with
      | true => exact jsR_le g is (acc ++ y) sl h1
      | false => exact .inr rfl
    | _ => exact .inr rfl
theorem rpr_le {k : Nat} {r q : EV} (G : Prg) (g : Le k r q) (d : Nat) (v : Val) (h : LH) : Lb (stRpr G r d v h) (stRpr G q (d + k) v h) := by
  unfold stRpr
  cases mthO G v "__repr__" h with
  | none => exact .inr rfl
  | some j =>
    match d with
    | 0 => exact .inl rfl
    | 1 => exact .inl rfl
    | d' + 2 =>
      rw [show d' + 2 + k = (d' + k) + 2 by omega]
      rcases g.c d' j [v] h with z | z
      · exact .inl (by show onlyStr (r.c d' j [v] h) = .bad; rw [z]; rfl)
      · exact .inr (by show onlyStr (q.c (d' + k) j [v] h) = onlyStr (r.c d' j [v] h); rw [z])
theorem mcl_le {k : Nat} {r q : EV} (G : Prg) (g : Le k r q) (d : Nat) (v : Val) (m : Str) (h : LH) {vs ws : LH → Res (List Val)} (L : ∀ h, Lb (vs h) (ws h)) : Lb (stMcl G r d v m h vs) (stMcl G q (d + k) v m h ws) := by
  unfold stMcl
  match d with
  | 0 => exact .inl rfl
  | d' + 1 =>
    rw [show d' + 1 + k = (d' + k) + 1 by omega]
    cases mthO G v m h with
    | none => exact .inr rfl
    | some j => exact (L h).bind fun v h1 => g.c d' j _ _
theorem own_le {k : Nat} {r q : EV} (g : Le k r q) (d : Nat) (o : Option (Nat × List Val)) (x : Res Val) (h : LH) : Lb (stOwn r d o x h) (stOwn q (d + k) o x h) := by
  unfold stOwn
  match d, o with
  | _, none => exact .inr rfl
  | 0, some (j, vs) => exact .inl rfl
  | d' + 1, some (j, vs) =>
    rw [show d' + 1 + k = (d' + k) + 1 by omega]
    exact g.c d' j vs h
theorem neg_le {x y : Res Val} (l : Lb x y) : Lb (negB x) (negB y) := by
  rcases l with l | l
  · exact .inl (by rw [l]; rfl)
  · exact .inr (by rw [l])
theorem cmp_le {k : Nat} {r q : EV} {G : Prg} (g : Le k r q) (d : Nat) (op : CmpOp) (v w : Val) (h : LH) : Lb (stCmp G r d op v w h) (stCmp G q (d + k) op v w h) := by
  unfold stCmp
  cases neO G op v w h with
  | none => exact own_le g d _ _ h
  | some j =>
    match d with
    | 0 => exact .inl rfl
    | 1 => exact .inl rfl
    | d' + 2 =>
      rw [show d' + 2 + k = (d' + k) + 2 by omega]
      exact neg_le (g.c d' j _ h)
theorem s1_le (G : Prg) {k : Nat} {r q : EV} (g : Le k r q) (d : Nat) (st : IS) (sl : LS) (h : LH) : LbS (stS1 G r d st sl h) (stS1 G q (d + k) st sl h) := by
  cases st with
  | ex e => exact LbS.ofR (g.e d e sl h) fun v h1 => .inr rfl
  | asg tg e => exact LbS.ofR (g.e d e sl h) fun v h1 => .inr rfl
  | sub o i e => exact LbS.ofR (g.e d e sl h) fun v h1 => LbS.ofR (g.e d o sl h1) fun v h2 => LbS.ofR (g.e d i sl h2) fun v h3 => .inr rfl
  | ret o =>
    cases o with
    | none => exact .inr rfl
    | some e => exact LbS.ofR (g.e d e sl h) fun v h1 => .inr rfl
  | iff c a b =>
    refine LbS.ofRB (g.t d c sl h) fun v h1 => ?_
    cases v with
    | true => exact g.s d a sl h1
    | false => exact g.s d b sl h1
  | for_ tg k' es body =>
    refine LbS.ofRL (evL_le (g.e d) es sl h) fun vs h1 => ?_
    cases mkSrc k' vs h1 with
    | none => exact .inr rfl
    | some s => exact g.f d tg body s 0 sl h1
  | whl c body => exact g.w d c body sl h
  | brk => exact .inr rfl
  | cnt => exact .inr rfl
  | pas => exact .inr rfl
  | nev => exact .inr rfl
  | sta o f e => exact LbS.ofR (g.e d e sl h) fun v h1 => LbS.ofR (g.e d o sl h1) fun v h2 => .inr rfl
  | rse c e => exact LbS.ofR (g.e d e sl h) fun v h1 => .inr rfl
theorem le_next {k : Nat} {r q : EV} (G : Prg) (g : Le k r q) : Le k (EV.next G r) (EV.next G q) := by
  refine ⟨fun d i sl h => ?_, fun d i sl h => ?_, fun d b sl h => ?_, fun d tg b s i sl h => ?_, fun d c b sl h => ?_, fun d tg ifs el ow s i D sl h => ?_, fun d j vs h => ?_⟩
  · show Lb (stE G r d i sl h) (stE G q (d + k) i sl h)
    have L := evL_le (ev := r.e d) (ev' := q.e (d + k)) (g.e d)
    cases i with
    | cst v => exact .inr rfl
    | var j => exact .inr rfl
    | bin op a b => exact (g.e d a sl h).bind fun v h1 => (g.e d b sl h1).bind fun w h2 => own_le g d _ _ h2
    | neg a => exact (g.e d a sl h).bind fun v h1 => own_le g d _ _ h1
    | cmp op a b => exact (g.e d a sl h).bind fun v h1 => (g.e d b sl h1).bind fun w h2 => cmp_le g d op v w h2
    | chn op op' a b c =>
      exact (g.e d a sl h).bind fun v h1 => (g.e d b sl h1).bind fun w h2 => (Lb.rfl' _).bind fun z h3 => by
        unfold chnK
        split
        · exact (g.e d c sl h3).bind fun u h4 => .inr rfl
        · exact .inr rfl
        · exact .inr rfl
    | nt a => exact (g.e d a sl h).bind fun v h1 => .inr rfl
    | an es => exact evAn_le (g.e d) es sl h
    | orr es => exact evOr_le (g.e d) es sl h
    | ife c a b =>
      exact (g.t d c sl h).bind fun v h1 => by
        cases v with
        | true => exact g.e d a sl h1
        | false => exact g.e d b sl h1
    | tp es => exact (L es sl h).bind fun v h1 => .inr rfl
    | ls es => exact (L es sl h).bind fun v h1 => .inr rfl
    | cal f es =>
      cases d with
      | zero => exact .inl rfl
      | succ d =>
        have e : d + 1 + k = (d + k) + 1 := by omega
        rw [e] at L ⊢
        exact (L es sl h).bind fun v h1 => g.c d f v h1
    | blt b es => exact (L es sl h).bind fun v h1 => .inr rfl
    | opn o es => exact (L es sl h).bind fun v h1 => .inr rfl
    | spl l bs es => exact (evS_le (g.e d) bs es sl h).bind fun v h1 => .inr rfl
    | lrg a => exact (g.e d a sl h).bind fun v h1 => .inr rfl
    | mth m o es =>
      exact (g.e d o sl h).bind fun v h1 => by
        split
        · exact (L es sl h1).bind fun v h2 => .inr rfl
        · exact .inr rfl
    | ix a b => exact (g.e d a sl h).bind fun v h1 => (g.e d b sl h1).bind fun w h2 => .inr rfl
    | sl a lo hi =>
      refine (g.e d a sl h).bind fun v h1 => ?_
      cases lo with
      | none =>
        cases hi with
        | none => exact .inr rfl
        | some u => exact (g.e d u sl h1).bind fun w h2 => .inr rfl
      | some l =>
        cases hi with
        | none => exact (g.e d l sl h1).bind fun w h2 => .inr rfl
        | some u =>
          exact (g.e d l sl h1).bind fun w h2 => by
            unfold intK
            split
            · exact (g.e d u sl h2).bind fun w h2 => .inr rfl
            · exact .inr rfl
    | mkE c e => exact (g.e d e sl h).bind fun v h1 => .inr rfl
    | fld e => exact (g.e d e sl h).bind fun v h1 => .inr rfl
    | isi e c => exact (g.e d e sl h).bind fun v h1 => .inr rfl
    | rpr e => exact (g.e d e sl h).bind fun v h1 => rpr_le G g d v h1
    | fmt e => exact (g.e d e sl h).bind fun v h1 => .inr rfl
    | js es => exact jsR_le (fun i sl h => g.e d i sl h) es Str.empty sl h
    | dsp ks es =>
      cases ks with
      | nil => exact .inr rfl
      | cons k' ks => exact (L es sl _).bind fun v h1 => .inr rfl
    | lc tg k' es ifs elt own =>
      refine (L es sl h).bind fun vs h1 => ?_
      cases mkSrc k' vs h1 with
      | none => exact .inr rfl
      | some s => exact g.l d tg ifs elt own s 0 _ _ _
    | att e f => exact (g.e d e sl h).bind fun v h1 => att_le G g d v f h1
    | mk c es =>
      match d, L with
      | 0, _ => exact .inl rfl
      | 1, _ => exact .inl rfl
      | d' + 2, L =>
        rw [show d' + 2 + k = (d' + k) + 2 by omega] at L ⊢
        exact (L es sl h).bind fun vs h1 => mk_le G g d' c vs h1
    | mcl o m es => exact (g.e d o sl h).bind fun v h1 => mcl_le G g d v m h1 fun h => L es sl h
    | nvr => exact .inr rfl
    | tld e =>
      match d with
      | 0 => exact .inl rfl
      | 1 => exact .inl rfl
      | d' + 2 =>
        rw [show d' + 2 + k = (d' + k) + 2 by omega]
        rcases g.e d' e sl h with z | z
        · exact .inl (by show vTold G.errs (r.e d' e sl h) = .bad; rw [z]; rfl)
        · exact .inr (by show vTold G.errs (q.e (d' + k) e sl h) = vTold G.errs (r.e d' e sl h); rw [z])
  · show Lb (stT r d i sl h) (stT q (d + k) i sl h)
    cases i with
    | nt a => exact (g.t d a sl h).bind fun v h1 => .inr rfl
    | an es => exact tsAn_le (g.t d) es sl h
    | orr es => exact tsOr_le (g.t d) es sl h
    | cmp op a b => exact (g.e d _ sl h).bind fun v h1 => .inr rfl
    | chn op op' a b c => exact (g.e d _ sl h).bind fun v h1 => .inr rfl
    | ife _ _ _ => exact .inr rfl
    | _ => exact (g.e d _ sl h).bind fun v h1 => .inr rfl
  · show LbS (stS G r d b sl h) (stS G q (d + k) b sl h)
    have s1 : ∀ st, LbS (stS1 G r d st sl h) (stS1 G q (d + k) st sl h) := fun st => s1_le G g d st sl h
    cases b with
    | nil => exact .inr rfl
    | cons st rest =>
      show LbS (match stS1 G r d st sl h with
        | .nx sl1 h1 => r.s d rest sl1 h1
        | x => x) (match stS1 G q (d + k) st sl h with
        | .nx sl1 h1 => q.s (d + k) rest sl1 h1
        | x => x)
      rcases s1 st with e | e
      · rw [e]; exact .inl rfl
      · rw [e]
        cases stS1 G r d st sl h with
        | nx sl1 h1 => exact g.s d rest sl1 h1
        | _ => exact .inr rfl
  · show LbS (stF r d tg b s i sl h) (stF q (d + k) tg b s i sl h)
    unfold stF
    split
    · exact .inr rfl
    · exact .inr rfl
    · split
      · exact .inr rfl
      · rename_i sl1 _
        rcases g.s d b sl1 h with e | e
        · rw [e]; exact .inl rfl
        · rw [e]
          cases r.s d b sl1 h with
          | nx sl2 h2 => exact g.f d tg b s (i + 1) sl2 h2
          | ct sl2 h2 => exact g.f d tg b s (i + 1) sl2 h2
          | _ => exact .inr rfl
  · show LbS (stW r d c b sl h) (stW q (d + k) c b sl h)
    unfold stW
    refine LbS.ofRB (g.t d c sl h) fun v h1 => ?_
    cases v with
    | false => exact .inr rfl
    | true =>
      dsimp only
      rcases g.s d b sl h1 with e | e
      · rw [e]; exact .inl rfl
      · rw [e]
        cases r.s d b sl h1 with
        | nx sl2 h2 => exact g.w d c b sl2 h2
        | ct sl2 h2 => exact g.w d c b sl2 h2
        | _ => exact .inr rfl
  · show Lb (stL r d tg ifs el ow s i D sl h) (stL q (d + k) tg ifs el ow s i D sl h)
    unfold stL
    split
    · exact .inr rfl
    · exact .inr rfl
    · split
      · exact .inr rfl
      · rename_i sl1 _
        refine (calm_le (tsIf_le (g.t d) ifs sl1 h)).bind fun b h1 => ?_
        cases b with
        | false => exact g.l d tg ifs el ow s (i + 1) D sl h1
        | true =>
          refine (calm_le (g.e d el sl1 h1)).bind fun y h2 => ?_
          split
          · split
            · exact g.l d tg ifs el ow s (i + 1) D sl _
            · exact .inr rfl
          · exact .inr rfl
  · show Lb (stC G r d j vs h) (stC G q (d + k) j vs h)
    unfold stC
    split
    · exact .inr rfl
    · rename_i D _
      split
      · exact .inr rfl
      · rcases g.s d D.body (vs.map some ++ List.replicate (D.n - vs.length) none) h with e | e
        · rw [e]; exact .inl rfl
        · rw [e]; exact .inr rfl
theorem run_le (G : Prg) (k m : Nat) : ∀ n, Le k (run G n) (run G (n + m))
  | 0 => le_none k _
  | n + 1 => by
    have e : n + 1 + m = (n + m) + 1 := by omega
    rw [e]
    exact le_next G (run_le G k m n)
/-- more fuel and depth -/
theorem more {G : Prg} {n n' d d' j : Nat} {vs : List Val} {h h1 : LH} {v : Val} (e : (run G n).c d j vs h = .ok v h1) (hn : n ≤ n') (hd : d ≤ d') : (run G n').c d' j vs h = .ok v h1 := by
  obtain ⟨m, rfl⟩ := Nat.exists_eq_add_of_le hn
  obtain ⟨k, rfl⟩ := Nat.exists_eq_add_of_le hd
  rcases (run_le G k m n).c d j vs h with z | z
  · rw [e] at z; cases z
  · rw [z, e]
end
end Mi

set_option Elab.async false
set_option linter.all false
set_option maxRecDepth 100000
set_option maxHeartbeats 1000000
/-! W1: what a run has to bring, backwards (wishes of the evaluator's own runs). -/
namespace Mi
open PySem L2
abbrev EP := Str → Val → LH → Prop
def Hd {α : Type} (r : Res α) (Q : α → LH → Prop) (E : EP) : Prop := match r with
  | .ok a h => Q a h
  | .exc c v h => E c v h
  | .bad => False
def HdS (x : RsS) (K : RsS → Prop) : Prop := match x with
  | .bad => False
  | .nx sl h => K (.nx sl h)
  | .rt v h => K (.rt v h)
  | .bk sl h => K (.bk sl h)
  | .ct sl h => K (.ct sl h)
  | .exc c v sl h => K (.exc c v sl h)
theorem HdS.of {x : RsS} {K : RsS → Prop} (hx : x ≠ .bad) (k : K x) : HdS x K := by
  cases x with
  | bad => exact absurd rfl hx
  | nx _ _ => exact k
  | rt _ _ => exact k
  | bk _ _ => exact k
  | ct _ _ => exact k
  | exc _ _ _ _ => exact k
theorem HdS.nb {x : RsS} {K : RsS → Prop} (k : HdS x K) : x ≠ .bad ∧ K x := by
  cases x with
  | bad => exact k.elim
  | nx _ _ => exact ⟨(fun z => by cases z), k⟩
  | rt _ _ => exact ⟨(fun z => by cases z), k⟩
  | bk _ _ => exact ⟨(fun z => by cases z), k⟩
  | ct _ _ => exact ⟨(fun z => by cases z), k⟩
  | exc _ _ _ _ => exact ⟨(fun z => by cases z), k⟩
theorem HdS.mono {x : RsS} {K K' : RsS → Prop} (k : HdS x K) (m : ∀ y, K y → K' y) : HdS x K' := .of k.nb.1 (m _ k.nb.2)
theorem Hd.mono {α : Type} {r : Res α} {Q Q' : α → LH → Prop} {E E' : EP} (k : Hd r Q E) (m : ∀ v h, Q v h → Q' v h) (m2 : ∀ c v h, E c v h → E' c v h) : Hd r Q' E' := by
  cases r with
  | bad => exact k
  | ok v h => exact m _ _ k
  | exc c v h => exact m2 _ _ _ k
/-! ### families that grow with the fuel -/
def Mon {α : Type} (r : Nat → Res α) : Prop := ∀ n m, n ≤ m → Lb (r n) (r m)
def MonS (r : Nat → RsS) : Prop := ∀ n m, n ≤ m → LbS (r n) (r m)
theorem Mon.const {α : Type} (x : Res α) : Mon fun _ => x := fun _ _ _ => .inr rfl
theorem MonS.const (x : RsS) : MonS fun _ => x := fun _ _ _ => .inr rfl
theorem Mon.up {α : Type} {r : Nat → Res α} (m : Mon r) {n n' : Nat} {Q : α → LH → Prop} {E : EP} (k : Hd (r n) Q E) (hn : n ≤ n') : Hd (r n') Q E ∧ r n' = r n := by
  rcases m n n' hn with z | z
  · rw [z] at k; exact k.elim
  · rw [z]; exact ⟨k, rfl⟩
theorem MonS.up {r : Nat → RsS} (m : MonS r) {n n' : Nat} {K : RsS → Prop} (k : HdS (r n) K) (hn : n ≤ n') : HdS (r n') K ∧ r n' = r n := by
  rcases m n n' hn with z | z
  · rw [z] at k; exact k.elim
  · rw [z]; exact ⟨k, rfl⟩
theorem Mon.bind {α β : Type} {r : Nat → Res α} {F : Nat → α → LH → Res β} (m : Mon r) (f : ∀ v h, Mon fun n => F n v h) : Mon fun n => (r n).bind (F n) := fun n k hn => Lb.bind (m n k hn) fun v h => f v h n k hn
theorem comb {α β : Type} {r : Nat → Res α} {F : Nat → α → LH → Res β} {Q : β → LH → Prop} {E : EP} (m : Mon r) (f : ∀ v h, Mon fun n => F n v h) (k : ∃ n, Hd (r n) (fun v h => ∃ n, Hd (F n v h) Q E) E) : ∃ n, Hd ((r n).bind (F n)) Q E := by
  obtain ⟨n, k⟩ := k
  cases e : r n with
  | bad => rw [e] at k; exact k.elim
  | exc c v h =>
    refine ⟨n, ?_⟩
    rw [e] at k ⊢
    exact k
  | ok v h =>
    have k0 := k
    rw [e] at k
    obtain ⟨j, k⟩ := k
    refine ⟨max n j, ?_⟩
    rw [(m.up k0 (Nat.le_max_left n j)).2, e]
    exact ((f v h).up k (Nat.le_max_right n j)).1
theorem combS {α : Type} {r : Nat → Res α} {F : Nat → α → LH → RsS} {O : Res α → (α → LH → RsS) → RsS} {K : RsS → Prop} {X : EP} (m : Mon r) (f : ∀ v h, MonS fun n => F n v h)
    (o1 : ∀ v h g, O (.ok v h) g = g v h) (o2 : ∀ c v h g, X c v h → HdS (O (.exc c v h) g) K) (k : ∃ n, Hd (r n) (fun v h => ∃ n, HdS (F n v h) K) X) : ∃ n, HdS (O (r n) (F n)) K := by
  obtain ⟨n, k⟩ := k
  cases e : r n with
  | bad => rw [e] at k; exact k.elim
  | exc c v h =>
    refine ⟨n, ?_⟩
    rw [e] at k ⊢
    exact o2 c v h _ k
  | ok v h =>
    have k0 := k
    rw [e] at k
    obtain ⟨j, k⟩ := k
    refine ⟨max n j, ?_⟩
    rw [(m.up k0 (Nat.le_max_left n j)).2, e, o1]
    exact ((f v h).up k (Nat.le_max_right n j)).1
section
variable (G : Prg) (d : Nat)
def XE (ie : IE) (sl : LS) (h : LH) (Q : Val → LH → Prop) (E : EP) : Prop := ∃ n, Hd ((run G n).e d ie sl h) Q E
def XT (ie : IE) (sl : LS) (h : LH) (Q : Bool → LH → Prop) (E : EP) : Prop := ∃ n, Hd ((run G n).t d ie sl h) Q E
def XL (es : List IE) (sl : LS) (h : LH) (Q : List Val → LH → Prop) (E : EP) : Prop := ∃ n, Hd (evL ((run G n).e d) es sl h) Q E
def XC (k : Nat) (vs : List Val) (h : LH) (Q : Val → LH → Prop) (E : EP) : Prop := ∃ n, Hd ((run G n).c d k vs h) Q E
def XLc (tg : ITg) (ifs : List IE) (el : IE) (ow : List Nat) (s : Src) (i D : Nat) (sl : LS) (h : LH) (Q : Val → LH → Prop) (E : EP) : Prop := ∃ n, Hd ((run G n).l d tg ifs el ow s i D sl h) Q E
def XS (b : List IS) (sl : LS) (h : LH) (K : RsS → Prop) : Prop := ∃ n, HdS ((run G n).s d b sl h) K
def X1 (st : IS) (sl : LS) (h : LH) (K : RsS → Prop) : Prop := ∃ n, HdS (stS1 G (run G n) d st sl h) K
def XF (tg : ITg) (b : List IS) (s : Src) (i : Nat) (sl : LS) (h : LH) (K : RsS → Prop) : Prop := ∃ n, HdS ((run G n).f d tg b s i sl h) K
def XW (c : IE) (b : List IS) (sl : LS) (h : LH) (K : RsS → Prop) : Prop := ∃ n, HdS ((run G n).w d c b sl h) K
end
section
variable {G : Prg} {d : Nat} {sl : LS} {h : LH}
theorem mE {i : IE} : Mon fun n => (run G n).e d i sl h := fun n m hn => by
  obtain ⟨k, rfl⟩ := Nat.exists_eq_add_of_le hn
  exact (run_le G 0 k n).e d i sl h
theorem mT {i : IE} : Mon fun n => (run G n).t d i sl h := fun n m hn => by
  obtain ⟨k, rfl⟩ := Nat.exists_eq_add_of_le hn
  exact (run_le G 0 k n).t d i sl h
theorem mC {k : Nat} {vs : List Val} : Mon fun n => (run G n).c d k vs h := fun n m hn => by
  obtain ⟨j, rfl⟩ := Nat.exists_eq_add_of_le hn
  exact (run_le G 0 j n).c d k vs h
theorem mLc {tg : ITg} {ifs : List IE} {el : IE} {ow : List Nat} {s : Src} {i D : Nat} : Mon fun n => (run G n).l d tg ifs el ow s i D sl h := fun n m hn => by
  obtain ⟨j, rfl⟩ := Nat.exists_eq_add_of_le hn
  exact (run_le G 0 j n).l d tg ifs el ow s i D sl h
theorem mL {es : List IE} : Mon fun n => evL ((run G n).e d) es sl h := fun n m hn => by
  obtain ⟨j, rfl⟩ := Nat.exists_eq_add_of_le hn
  exact evL_le (fun i sl h => (run_le G 0 j n).e d i sl h) es sl h
theorem mS {b : List IS} : MonS fun n => (run G n).s d b sl h := fun n m hn => by
  obtain ⟨j, rfl⟩ := Nat.exists_eq_add_of_le hn
  exact (run_le G 0 j n).s d b sl h
theorem mF {tg : ITg} {b : List IS} {s : Src} {i : Nat} : MonS fun n => (run G n).f d tg b s i sl h := fun n m hn => by
  obtain ⟨j, rfl⟩ := Nat.exists_eq_add_of_le hn
  exact (run_le G 0 j n).f d tg b s i sl h
theorem mW {c : IE} {b : List IS} : MonS fun n => (run G n).w d c b sl h := fun n m hn => by
  obtain ⟨j, rfl⟩ := Nat.exists_eq_add_of_le hn
  exact (run_le G 0 j n).w d c b sl h
theorem m1 {st : IS} : MonS fun n => stS1 G (run G n) d st sl h := fun n m hn => by
  obtain ⟨j, rfl⟩ := Nat.exists_eq_add_of_le hn
  exact s1_le G (run_le G 0 j n) d st sl h
end
/-! ### the wishes, by the text -/
abbrev WE := LS → LH → (Val → LH → Prop) → EP → Prop
abbrev WT := LS → LH → (Bool → LH → Prop) → EP → Prop
abbrev WL := LS → LH → (List Val → LH → Prop) → EP → Prop
def ttr (e : WE) : WT := fun sl h Q E => e sl h (fun v h1 => match truO v h1 with
  | some b => Q b h1
  | none => False) E
def tbl (e : WE) : WT := fun sl h Q E => e sl h (fun v h1 => match v with
  | .bl b => Q b h1
  | _ => False) E
section
variable (G : Prg) (d : Nat)
def wOwn (o : Option (Nat × List Val)) (x : Res Val) (h : LH) (Q : Val → LH → Prop) (E : EP) : Prop := match o with
  | some (k, vs) => 1 ≤ d ∧ XC G (d - 1) k vs h Q E
  | none => Hd x Q E
/-- not equal -/
def wNe (v y : Val) (h : LH) (Q : Val → LH → Prop) (E : EP) : Prop := match neO G .NotEq v y h with
  | some k => 2 ≤ d ∧ XC G (d - 2) k [v, y] h (fun z h2 => ∃ b, z = .bl b ∧ Q (.bl (!b)) h2) (fun _ _ _ => False)
  | none => Hd (vCmp .NotEq v y h) Q E
def wCmp (op : CmpOp) (v y : Val) (h : LH) (Q : Val → LH → Prop) (E : EP) : Prop := match op with
  | .NotEq => wNe G d v y h Q E
  | .Eq => wOwn G d (ownO G (dunC .Eq) v y h) (vCmp .Eq v y h) h Q E
  | .Lt => wOwn G d (ownO G (dunC .Lt) v y h) (vCmp .Lt v y h) h Q E
  | .LtE => wOwn G d (ownO G (dunC .LtE) v y h) (vCmp .LtE v y h) h Q E
  | .Gt => wOwn G d (ownO G (dunC .Gt) v y h) (vCmp .Gt v y h) h Q E
  | .GtE => wOwn G d (ownO G (dunC .GtE) v y h) (vCmp .GtE v y h) h Q E
  | .Is => wOwn G d (ownO G (dunC .Is) v y h) (vCmp .Is v y h) h Q E
  | .IsNot => wOwn G d (ownO G (dunC .IsNot) v y h) (vCmp .IsNot v y h) h Q E
  | .In => wOwn G d (ownO G (dunC .In) v y h) (vCmp .In v y h) h Q E
  | .NotIn => wOwn G d (ownO G (dunC .NotIn) v y h) (vCmp .NotIn v y h) h Q E
def wAtt (v : Val) (f : Str) (h : LH) (Q : Val → LH → Prop) (E : EP) : Prop := match attO G v f h with
  | some (.inl y) => Q y h
  | some (.inr k) => 2 ≤ d ∧ XC G (d - 2) k [v] h Q fun _ _ _ => False
  | none => False
def wMk (c : Str) (vs : List Val) (h : LH) (Q : Val → LH → Prop) (E : EP) : Prop := match G.cls.lookup c with
  | some I => XC G (d - 2) I.init (fillV G I.init (.loc h.length :: vs)) (h ++ [.slt c []]) (fun v h1 => v = .non ∧ Q (.loc h.length) h1) E
  | none => False
/-- repr(v) -/
def wRpr (v : Val) (h : LH) (Q : Val → LH → Prop) (E : EP) : Prop := match mthO G v "__repr__" h with
  | some k => 2 ≤ d ∧ XC G (d - 2) k [v] h (fun y h2 => (∃ z, y = .str z) ∧ Q y h2) (fun _ _ _ => False)
  | none => Hd (vRep v h) Q E
mutual
/-- an expression's wish, and that of it as a test -/
def w : IE → WE × WT
  | .cst v => let e : WE := fun sl h Q E => noLoc v = true ∧ Q v h
    (e, ttr e)
  | .var i => let e : WE := fun sl h Q E => (match sl[i]? with
      | some (some v) => Q v h
      | _ => False)
    (e, ttr e)
  | .bin op a b => let e : WE := fun sl h Q E => (w a).1 sl h (fun v h1 => (w b).1 sl h1 (fun w h2 => wOwn G d (ownO G (dunB op) v w h2) (vBin op v w h2) h2 Q E) E) E
    (e, ttr e)
  | .neg a => let e : WE := fun sl h Q E => (w a).1 sl h (fun v h1 => wOwn G d ((mthO G v "__neg__" h1).map fun k => (k, [v])) (vNeg v h1) h1 Q E) E
    (e, ttr e)
  | .cmp op a b => let e : WE := fun sl h Q E => (w a).1 sl h (fun v h1 => (w b).1 sl h1 (fun y h2 => match op with
      | .NotEq => wNe G d v y h2 Q E
      | .Eq => wOwn G d (ownO G (dunC .Eq) v y h2) (vCmp .Eq v y h2) h2 Q E
      | .Lt => wOwn G d (ownO G (dunC .Lt) v y h2) (vCmp .Lt v y h2) h2 Q E
      | .LtE => wOwn G d (ownO G (dunC .LtE) v y h2) (vCmp .LtE v y h2) h2 Q E
      | .Gt => wOwn G d (ownO G (dunC .Gt) v y h2) (vCmp .Gt v y h2) h2 Q E
      | .GtE => wOwn G d (ownO G (dunC .GtE) v y h2) (vCmp .GtE v y h2) h2 Q E
      | .Is => wOwn G d (ownO G (dunC .Is) v y h2) (vCmp .Is v y h2) h2 Q E
      | .IsNot => wOwn G d (ownO G (dunC .IsNot) v y h2) (vCmp .IsNot v y h2) h2 Q E
      | .In => wOwn G d (ownO G (dunC .In) v y h2) (vCmp .In v y h2) h2 Q E
      | .NotIn => wOwn G d (ownO G (dunC .NotIn) v y h2) (vCmp .NotIn v y h2) h2 Q E) E) E
    (e, tbl e)
  | .chn op op' a b c => let e : WE := fun sl h Q E => (w a).1 sl h (fun v h1 => (w b).1 sl h1 (fun y h2 => Hd (vCmp op v y h2) (fun z h3 => match z with
      | .bl true => (w c).1 sl h3 (fun u h4 => Hd (vCmp op' y u h4) Q E) E
      | .bl false => Q (.bl false) h3
      | _ => False) E) E) E
    (e, tbl e)
  | .nt a => (fun sl h Q E => (w a).1 sl h (fun v h1 => match v with
      | .bl b => Q (.bl (!b)) h1
      | _ => False) E, fun sl h Q E => (w a).2 sl h (fun b h1 => Q (!b) h1) E)
  | .an es => (wAn es, tAn es)
  | .orr es => (wOr es, tOr es)
  | .ife c a b => (fun sl h Q E => (w c).2 sl h (fun x h1 => match x with
      | true => (w a).1 sl h1 Q E
      | false => (w b).1 sl h1 Q E) E, fun _ _ _ _ => False)
  | .tp es => let e : WE := fun sl h Q E => wL es sl h (fun vs h1 => vs.length ≤ sizeLine ∧ Q (.tup vs) h1) E
    (e, ttr e)
  | .ls es => let e : WE := fun sl h Q E => wL es sl h (fun vs h1 => vs.length ≤ sizeLine ∧ Q (.loc h1.length) (h1 ++ [.lst vs])) E
    (e, ttr e)
  | .cal f es => let e : WE := fun sl h Q E => 1 ≤ d ∧ wL es sl h (fun vs h1 => XC G (d - 1) f vs h1 Q E) E
    (e, ttr e)
  | .blt b es => let e : WE := fun sl h Q E => wL es sl h (fun vs h1 => Hd (vBi b vs h1) Q E) E
    (e, ttr e)
  | .opn o es => let e : WE := fun sl h Q E => wL es sl h (fun vs h1 => Hd (vOp o vs h1) Q E) E
    (e, ttr e)
  | .spl l bs es => let e : WE := fun sl h Q E => wSp es bs sl h (fun vs h1 => vs.length ≤ sizeLine ∧ Hd (lsTp l vs h1) Q E) E
    (e, ttr e)
  | .lrg a => let e : WE := fun sl h Q E => (w a).1 sl h (fun v h1 => match v with
      | .int n => (-(2 ^ 62) ≤ n ∧ n < 2 ^ 62 ∧ n.toNat ≤ 2 ^ 24) ∧ Q (.loc h1.length) (h1 ++ [.lst ((List.range n.toNat).map fun (i : Nat) => Val.int (i : Int))])
      | _ => False) E
    (e, ttr e)
  | .mth m o es => let e : WE := fun sl h Q E => (w o).1 sl h (fun v h1 => okTy m v h1 = true ∧ wL es sl h1 (fun vs h2 => Hd (vMt m v vs h2) Q E) E) E
    (e, ttr e)
  | .ix a b => let e : WE := fun sl h Q E => (w a).1 sl h (fun v h1 => (w b).1 sl h1 (fun w h2 => Hd (vIx v w h2) Q E) E) E
    (e, ttr e)
  | .sl a lo hi => let e : WE := (match lo, hi with
      | none, none => fun sl h Q E => (w a).1 sl h (fun v h1 => Hd (vSl v none none h1) Q E) E
      | some l, none => fun sl h Q E => (w a).1 sl h (fun v h1 => (w l).1 sl h1 (fun x h2 => Hd (slI1 v x h2) Q E) E) E
      | none, some u => fun sl h Q E => (w a).1 sl h (fun v h1 => (w u).1 sl h1 (fun x h2 => Hd (slI2 v x h2) Q E) E) E
      | some l, some u => fun sl h Q E => (w a).1 sl h (fun v h1 => (w l).1 sl h1 (fun x h2 => match x with
        | .int i => (w u).1 sl h2 (fun y h3 => match y with
          | .int j => Hd (vSl v (some i) (some j) h3) Q E
          | _ => False) E
        | _ => False) E) E)
    (e, ttr e)
  | .mkE c a => let e : WE := fun sl h Q E => (w a).1 sl h (fun v h1 => Q (.err c v) h1) E
    (e, ttr e)
  | .fld a => let e : WE := fun sl h Q E => (w a).1 sl h (fun v h1 => Hd (vFld G.errs v h1) Q E) E
    (e, ttr e)
  | .isi a c => let e : WE := fun sl h Q E => (w a).1 sl h (fun v h1 => Hd (vIsi G.isiT G.errs G.isC c v h1) Q E) E
    (e, ttr e)
  | .rpr a => let e : WE := fun sl h Q E => (w a).1 sl h (fun v h1 => wRpr G d v h1 Q E) E
    (e, ttr e)
  | .fmt a => let e : WE := fun sl h Q E => (w a).1 sl h (fun v h1 => Hd (vFmt v h1) Q E) E
    (e, ttr e)
  | .js es => let e : WE := fun sl h Q E => wJs es Str.empty sl h Q E
    (e, ttr e)
  | .dsp ks es => let e : WE := (match ks with
      | [] => fun sl h Q E => Q (.loc h.length) (h ++ [.dK []])
      | k :: ks => fun sl h Q E => wL es sl (h ++ [.dK []]) (fun vs h1 => match h1[h.length]? with
        | some (.dK []) => (decide ((k :: ks).length = vs.length) && decide ((k :: ks).length ≤ 15)) = true ∧ Q (.loc h.length) (h1.set h.length (.dK (putAll [] (k :: ks) vs)))
        | _ => False) E)
    (e, ttr e)
  | .lc tg k es ifs el ow => let e : WE := fun sl h Q E => wL es sl h (fun vs h1 => ∃ s, mkSrc k vs h1 = some s ∧ XLc G d tg ifs el ow s 0 h1.length (wipeL sl ow) (h1 ++ [.lst []]) Q E) E
    (e, ttr e)
  | .att a f => let e : WE := fun sl h Q E => (w a).1 sl h (fun v h1 => wAtt G d v f h1 Q E) E
    (e, ttr e)
  | .mk c es => let e : WE := fun sl h Q E => 2 ≤ d ∧ wL es sl h (fun vs h1 => wMk G d c vs h1 Q E) E
    (e, ttr e)
  | .mcl o m es => let e : WE := fun sl h Q E => (w o).1 sl h (fun v h1 => 1 ≤ d ∧ match mthO G v m h1 with
      | some k => wL es sl h1 (fun ws h2 => XC G (d - 1) k (fillV G k (v :: ws)) h2 Q E) E
      | none => False) E
    (e, ttr e)
  | .nvr => (fun _ _ _ _ => False, fun _ _ _ _ => False)
  | .tld a => let e : WE := fun sl h Q E => 2 ≤ d ∧ XE G (d - 2) a sl h (fun v h1 => Q (.tup [.non, v]) h1) (fun c v h1 => G.errs.contains c = true ∧ Q (.tup [.err c v, .non]) h1)
    (e, ttr e)
def wJs : List IE → Str → WE
  | [] => fun acc sl h Q E => Q (.str acc) h
  | a :: es => fun acc sl h Q E => (w a).1 sl h (fun v h1 => match v with
    | .str y => (acc ++ y).length ≤ sizeLine ∧ wJs es (acc ++ y) sl h1 Q E
    | _ => False) E
def wL : List IE → WL
  | [] => fun sl h Q E => Q [] h
  | a :: es => fun sl h Q E => (w a).1 sl h (fun v h1 => wL es sl h1 (fun vs h2 => Q (v :: vs) h2) E) E
/-- with stars -/
def wSp : List IE → List Bool → WL
  | [] => fun bs sl h Q E => (match bs with
    | [] => Q [] h
    | _ :: _ => False)
  | a :: es => fun bs sl h Q E => (match bs with
    | [] => False
    | b :: bs => (w a).1 sl h (fun v h1 => match b with
      | false => wSp es bs sl h1 (fun vs h2 => Q (v :: vs) h2) E
      | true => (match seqA v h1 with
        | some xs => wSp es bs sl h1 (fun vs h2 => Q (xs ++ vs) h2) E
        | none => False)) E)
def wAn : List IE → WE
  | [] => fun _ _ _ _ => False
  | a :: es => match es with
    | [] => (w a).1
    | _ :: _ => fun sl h Q E => (w a).1 sl h (fun v h1 => match v with
      | .bl true => wAn es sl h1 Q E
      | .bl false => Q (.bl false) h1
      | _ => False) E
def wOr : List IE → WE
  | [] => fun _ _ _ _ => False
  | a :: es => match es with
    | [] => (w a).1
    | _ :: _ => fun sl h Q E => (w a).1 sl h (fun v h1 => match v with
      | .bl true => Q (.bl true) h1
      | .bl false => wOr es sl h1 Q E
      | _ => False) E
def tAn : List IE → WT
  | [] => fun _ _ _ _ => False
  | a :: es => match es with
    | [] => (w a).2
    | _ :: _ => fun sl h Q E => (w a).2 sl h (fun v h1 => match v with
      | true => tAn es sl h1 Q E
      | false => Q false h1) E
def tOr : List IE → WT
  | [] => fun _ _ _ _ => False
  | a :: es => match es with
    | [] => (w a).2
    | _ :: _ => fun sl h Q E => (w a).2 sl h (fun v h1 => match v with
      | true => Q true h1
      | false => tOr es sl h1 Q E) E
end
end
end Mi

set_option Elab.async false
set_option linter.all false
set_option maxRecDepth 100000
set_option maxHeartbeats 1000000
/-! W2: the wishes hold of the runs. -/
namespace Mi
open PySem L2
section
variable {G : Prg} {d : Nat} {sl : LS} {h : LH} {Q : Val → LH → Prop} {E : EP}
theorem x_e {ie : IE} (k : ∃ n, Hd (stE G (run G n) d ie sl h) Q E) : XE G d ie sl h Q E := k.elim fun n k => ⟨n + 1, k⟩
theorem x_t {ie : IE} {Q : Bool → LH → Prop} (k : ∃ n, Hd (stT (run G n) d ie sl h) Q E) : XT G d ie sl h Q E := k.elim fun n k => ⟨n + 1, k⟩
/-- a wish, stronger -/
theorem XE.mono {ie : IE} {Q' : Val → LH → Prop} {E' : EP} (k : XE G d ie sl h Q E) (m : ∀ v h, Q v h → Q' v h) (m2 : ∀ c v h, E c v h → E' c v h) : XE G d ie sl h Q' E' := k.elim fun n k => ⟨n, k.mono m m2⟩
theorem XL.mono {es : List IE} {Q Q' : List Val → LH → Prop} {E' : EP} (k : XL G d es sl h Q E) (m : ∀ v h, Q v h → Q' v h) (m2 : ∀ c v h, E c v h → E' c v h) : XL G d es sl h Q' E' := k.elim fun n k => ⟨n, k.mono m m2⟩
theorem XT.mono {ie : IE} {Q Q' : Bool → LH → Prop} {E' : EP} (k : XT G d ie sl h Q E) (m : ∀ v h, Q v h → Q' v h) (m2 : ∀ c v h, E c v h → E' c v h) : XT G d ie sl h Q' E' := k.elim fun n k => ⟨n, k.mono m m2⟩
theorem XC.mono {k : Nat} {vs : List Val} {Q' : Val → LH → Prop} {E' : EP} (x : XC G d k vs h Q E) (m : ∀ v h, Q v h → Q' v h) (m2 : ∀ c v h, E c v h → E' c v h) : XC G d k vs h Q' E' := x.elim fun n k => ⟨n, k.mono m m2⟩
theorem XC.monoQ {k : Nat} {vs : List Val} {Q' : Val → LH → Prop} (x : XC G d k vs h Q E) (m : ∀ v h, Q v h → Q' v h) : XC G d k vs h Q' E := x.mono m fun _ _ _ z => z
theorem pureE {r : Res Val} (k : Hd r Q E) : ∃ _ : Nat, Hd r Q E := ⟨0, k⟩
/-- a test by its value -/
theorem tt_ok {ie : IE} {Q : Bool → LH → Prop} (hs : ∀ r : EV, stT r d ie sl h = (r.e d ie sl h).bind fun v h1 => match truO v h1 with
    | some b => .ok b h1
    | none => .bad) (k : XE G d ie sl h (fun v h1 => match truO v h1 with
    | some b => Q b h1
    | none => False) E) : XT G d ie sl h Q E := by
  refine x_t ?_
  simp only [hs]
  refine comb mE (fun v h => Mon.const _) ?_
  refine k.mono (fun v h1 z => ⟨0, ?_⟩) fun _ _ _ z => z
  split at z
  · rename_i e; exact z
  · exact z.elim
theorem tb_ok {ie : IE} {Q : Bool → LH → Prop} (hs : ∀ r : EV, stT r d ie sl h = (r.e d ie sl h).bind fun v h1 => match v with
    | .bl b => .ok b h1
    | _ => .bad) (k : XE G d ie sl h (fun v h1 => match v with
    | .bl b => Q b h1
    | _ => False) E) : XT G d ie sl h Q E := by
  refine x_t ?_
  simp only [hs]
  refine comb mE (fun v h => Mon.const _) ?_
  refine k.mono (fun v h1 z => ⟨0, ?_⟩) fun _ _ _ z => z
  split at z
  · exact z
  · exact z.elim
end
section
variable (G : Prg) (d : Nat)
def OkE (ie : IE) : Prop := ∀ sl h Q E, (w G d ie).1 sl h Q E → XE G d ie sl h Q E
def OkT (ie : IE) : Prop := ∀ sl h Q E, (w G d ie).2 sl h Q E → XT G d ie sl h Q E
def OkL (es : List IE) : Prop := ∀ sl h Q E, wL G d es sl h Q E → XL G d es sl h Q E
end
section
variable {G : Prg} {d : Nat}
theorem ok_tru {ie : IE} (k : OkE G d ie) (e2 : (w G d ie).2 = ttr (w G d ie).1) (hs : ∀ (r : EV) (sl : LS) (h : LH), stT r d ie sl h = (r.e d ie sl h).bind fun v h1 => match truO v h1 with
    | some b => .ok b h1
    | none => .bad) : OkE G d ie ∧ OkT G d ie := ⟨k, fun sl h Q E z => tt_ok (fun r => hs r sl h) (k sl h _ E (by rw [e2] at z; exact z))⟩
theorem ok_bl {ie : IE} (k : OkE G d ie) (e2 : (w G d ie).2 = tbl (w G d ie).1) (hs : ∀ (r : EV) (sl : LS) (h : LH), stT r d ie sl h = (r.e d ie sl h).bind fun v h1 => match v with
    | .bl b => .ok b h1
    | _ => .bad) : OkE G d ie ∧ OkT G d ie := ⟨k, fun sl h Q E z => tb_ok (fun r => hs r sl h) (k sl h _ E (by rw [e2] at z; exact z))⟩
/-- one part, then a value -/
theorem ok_un {ie a : IE} {f : Val → LH → Res Val} (ka : OkE G d a) (hs : ∀ (n : Nat) (sl : LS) (h : LH), stE G (run G n) d ie sl h = ((run G n).e d a sl h).bind f) {sl : LS} {h : LH} {Q : Val → LH → Prop} {E : EP} (k : (w G d a).1 sl h (fun v h1 => Hd (f v h1) Q E) E) : XE G d ie sl h Q E := by
  refine x_e ?_
  simp only [hs]
  refine comb mE (fun v h => Mon.const _) ?_
  exact (ka sl h _ E k).mono (fun v h1 z => ⟨0, z⟩) fun _ _ _ z => z
theorem ok_bi {ie a b : IE} {f : Val → Val → LH → Res Val} (ka : OkE G d a) (kb : OkE G d b) (hs : ∀ (n : Nat) (sl : LS) (h : LH), stE G (run G n) d ie sl h = ((run G n).e d a sl h).bind fun v h1 => ((run G n).e d b sl h1).bind fun w h2 => f v w h2) {sl : LS} {h : LH} {Q : Val → LH → Prop} {E : EP}
    (k : (w G d a).1 sl h (fun v h1 => (w G d b).1 sl h1 (fun y h2 => Hd (f v y h2) Q E) E) E) : XE G d ie sl h Q E := by
  refine x_e ?_
  simp only [hs]
  refine comb mE (fun v h => Mon.bind mE fun _ _ => Mon.const _) ?_
  refine (ka sl h _ E k).mono (fun v h1 z => ?_) fun _ _ _ z => z
  refine comb mE (fun v h => Mon.const _) ?_
  exact (kb sl h1 _ E z).mono (fun v h1 z => ⟨0, z⟩) fun _ _ _ z => z
theorem ok_unF {ie a : IE} {f : Nat → Val → LH → Res Val} {P : Val → LH → Prop} (ka : OkE G d a) (hs : ∀ (n : Nat) (sl : LS) (h : LH), stE G (run G n) d ie sl h = ((run G n).e d a sl h).bind (f n)) (mf : ∀ v h, Mon fun n => f n v h) {sl : LS} {h : LH} {Q : Val → LH → Prop} {E : EP}
    (hP : ∀ v h1, P v h1 → ∃ n, Hd (f n v h1) Q E) (k : (w G d a).1 sl h P E) : XE G d ie sl h Q E := by
  refine x_e ?_
  simp only [hs]
  refine comb mE mf ?_
  exact (ka sl h _ E k).mono (fun v h1 z => hP v h1 z) fun _ _ _ z => z
theorem ok_biF {ie a b : IE} {f : Nat → Val → Val → LH → Res Val} {P : Val → Val → LH → Prop} (ka : OkE G d a) (kb : OkE G d b) (hs : ∀ (n : Nat) (sl : LS) (h : LH), stE G (run G n) d ie sl h = ((run G n).e d a sl h).bind fun v h1 => ((run G n).e d b sl h1).bind fun w h2 => f n v w h2) (mf : ∀ v w h, Mon fun n => f n v w h) {sl : LS} {h : LH} {Q : Val → LH → Prop} {E : EP}
    (hP : ∀ v w h1, P v w h1 → ∃ n, Hd (f n v w h1) Q E) (k : (w G d a).1 sl h (fun v h1 => (w G d b).1 sl h1 (fun y h2 => P v y h2) E) E) : XE G d ie sl h Q E := by
  refine x_e ?_
  simp only [hs]
  refine comb mE (fun v h => Mon.bind mE fun _ _ => mf _ _ _) ?_
  refine (ka sl h _ E k).mono (fun v h1 z => ?_) fun _ _ _ z => z
  refine comb mE (fun v h => mf _ _ _) ?_
  exact (kb sl h1 _ E z).mono (fun w h1 z => hP v w h1 z) fun _ _ _ z => z
theorem ok_li {ie : IE} {es : List IE} {f : Nat → List Val → LH → Res Val} (kl : OkL G d es) (hs : ∀ (n : Nat) (sl : LS) (h : LH), stE G (run G n) d ie sl h = (evL ((run G n).e d) es sl h).bind (f n)) {sl : LS} {h : LH} (mf : ∀ v h, Mon fun n => f n v h) {Q : Val → LH → Prop} {E : EP} {P : List Val → LH → Prop}
    (hP : ∀ v h1, P v h1 → ∃ n, Hd (f n v h1) Q E) (k : wL G d es sl h P E) : XE G d ie sl h Q E := by
  refine x_e ?_
  simp only [hs]
  refine comb mL mf ?_
  exact (kl sl h _ E k).mono (fun v h1 z => hP v h1 z) fun _ _ _ z => z
theorem hd_chk {b : Bool} {r : Res Val} {Q : Val → LH → Prop} {E : EP} (hb : b = true) (k : Hd r Q E) : Hd (chk b r) Q E := by rw [hb]; exact k
theorem mAtt {v : Val} {f : Str} {h : LH} : Mon fun n => stAtt G (run G n) d v f h := fun n m hn => by
  obtain ⟨j, rfl⟩ := Nat.exists_eq_add_of_le hn
  exact att_le G (run_le G 0 j n) d v f h
theorem mMk {c : Str} {vs : List Val} {h : LH} : Mon fun n => stMk G (run G n) d c vs h := fun n m hn => by
  obtain ⟨j, rfl⟩ := Nat.exists_eq_add_of_le hn
  exact mk_le G (run_le G 0 j n) d c vs h
theorem mMcl {v : Val} {m : Str} {h : LH} {es : List IE} {sl : LS} : Mon fun n => stMcl G (run G n) d v m h fun h1 => evL ((run G n).e d) es sl h1 := fun n k hn => by
  obtain ⟨j, rfl⟩ := Nat.exists_eq_add_of_le hn
  exact mcl_le G (run_le G 0 j n) d v m h fun h1 => evL_le (fun i sl h => (run_le G 0 j n).e d i sl h) es sl h1
theorem mRpr {v : Val} {h : LH} : Mon fun n => stRpr G (run G n) d v h := fun n m hn => by
  obtain ⟨j, rfl⟩ := Nat.exists_eq_add_of_le hn
  exact rpr_le G (run_le G 0 j n) d v h
theorem mSp {bs : List Bool} {es : List IE} {sl : LS} {h : LH} : Mon fun n => evS ((run G n).e d) bs es sl h := fun n m hn => by
  obtain ⟨j, rfl⟩ := Nat.exists_eq_add_of_le hn
  exact evS_le (fun i sl h => (run_le G 0 j n).e d i sl h) bs es sl h
theorem mJs {v : Val} {h : LH} {es : List IE} {acc : Str} {sl : LS} : Mon fun n => (match v with
    | .str y => chk (decide ((acc ++ y).length ≤ sizeLine)) (jsR ((run G n).e d) es (acc ++ y) sl h)
    | _ => .bad : Res Val) := fun n m hn => by
  obtain ⟨j, rfl⟩ := Nat.exists_eq_add_of_le hn
  cases v with
  | str y =>
    show Lb (chk _ _) (chk _ _)
    cases decide ((acc ++ y).length ≤ sizeLine) with
    | true => exact jsR_le (fun i sl h => (run_le G 0 j n).e d i sl h) es (acc ++ y) sl h
    | false => exact .inr rfl
  | _ => exact .inr rfl
theorem rpr_ok {v : Val} {h : LH} {Q : Val → LH → Prop} {E : EP} (k : wRpr G d v h Q E) : ∃ n, Hd (stRpr G (run G n) d v h) Q E := by
  unfold wRpr at k
  unfold stRpr
  cases e : mthO G v "__repr__" h with
  | none => rw [e] at k; exact ⟨0, k⟩
  | some j =>
    rw [e] at k
    obtain ⟨hd, n, k⟩ := k
    obtain ⟨d', rfl⟩ : ∃ d', d = d' + 2 := ⟨d - 2, by omega⟩
    refine ⟨n, ?_⟩
    show Hd (onlyStr ((run G n).c d' j [v] h)) Q E
    have k : Hd ((run G n).c d' j [v] h) (fun y h2 => (∃ z, y = .str z) ∧ Q y h2) (fun _ _ _ => False) := k
    cases e2 : (run G n).c d' j [v] h with
    | ok y h2 =>
      rw [e2] at k
      obtain ⟨⟨z, rfl⟩, k⟩ := k
      exact k
    | exc _ _ _ => rw [e2] at k; exact k.elim
    | bad => rw [e2] at k; exact k.elim
theorem mOwn {o : Option (Nat × List Val)} {x : Res Val} {h : LH} : Mon fun n => stOwn (run G n) d o x h := fun n m hn => by
  obtain ⟨j, rfl⟩ := Nat.exists_eq_add_of_le hn
  exact own_le (run_le G 0 j n) d o x h
theorem own_ok {o : Option (Nat × List Val)} {x : Res Val} {h : LH} {Q : Val → LH → Prop} {E : EP} (z : wOwn G d o x h Q E) : ∃ n, Hd (stOwn (run G n) d o x h) Q E := by
  match o, z with
  | none, z => exact ⟨0, z⟩
  | some (k, vs), z =>
    obtain ⟨hd, n, z⟩ := z
    obtain ⟨d', rfl⟩ : ∃ d', d = d' + 1 := ⟨d - 1, by omega⟩
    exact ⟨n, z⟩
theorem mCmp {op : CmpOp} {v y : Val} {h : LH} : Mon fun n => stCmp G (run G n) d op v y h := fun n m hn => by
  obtain ⟨j, rfl⟩ := Nat.exists_eq_add_of_le hn
  exact cmp_le (run_le G 0 j n) d op v y h
theorem ne_ok {v y : Val} {h : LH} {Q : Val → LH → Prop} {E : EP} (k : wNe G d v y h Q E) : ∃ n, Hd (stCmp G (run G n) d .NotEq v y h) Q E := by
  unfold wNe at k
  unfold stCmp
  cases e : neO G .NotEq v y h with
  | none =>
    rw [e] at k
    exact ⟨0, k⟩
  | some j =>
    rw [e] at k
    obtain ⟨hd, n, k⟩ := k
    obtain ⟨d', rfl⟩ : ∃ d', d = d' + 2 := ⟨d - 2, by omega⟩
    refine ⟨n, ?_⟩
    show Hd (negB ((run G n).c d' j [v, y] h)) Q E
    have k : Hd ((run G n).c d' j [v, y] h) (fun z h2 => ∃ b, z = .bl b ∧ Q (.bl (!b)) h2) (fun _ _ _ => False) := k
    cases e2 : (run G n).c d' j [v, y] h with
    | ok y h2 =>
      rw [e2] at k
      obtain ⟨b, rfl, k⟩ := k
      exact k
    | exc _ _ _ => rw [e2] at k; exact k.elim
    | bad => rw [e2] at k; exact k.elim
theorem cmp_ok {op : CmpOp} {v y : Val} {h : LH} {Q : Val → LH → Prop} {E : EP} (k : wCmp G d op v y h Q E) : ∃ n, Hd (stCmp G (run G n) d op v y h) Q E := by
  cases op with
  | NotEq => exact ne_ok k
  | _ =>
    unfold wCmp at k
    obtain ⟨n, k⟩ := own_ok k
    exact ⟨n, k⟩
mutual
theorem ok_w : ∀ ie, OkE G d ie ∧ OkT G d ie
  | .cst v => ok_tru (fun sl h Q E k => by
      simp only [w] at k
      exact x_e ⟨0, hd_chk k.1 k.2⟩) (by simp only [w]) fun _ _ _ => rfl
  | .var i => ok_tru (fun sl h Q E k => by
      simp only [w] at k
      refine x_e ⟨0, ?_⟩
      show Hd (match sl[i]? with
        | some (some v) => Res.ok v h
        | _ => .bad) Q E
      split at k
      · rename_i v e
        first
          | exact k
          | (rw [e]; exact k)
      · exact k.elim) (by simp only [w]) fun _ _ _ => rfl
  | .bin op a b => ok_tru (fun sl h Q E k => by
      simp only [w] at k
      exact ok_biF (ok_w a).1 (ok_w b).1 (f := fun n v y h2 => stOwn (run G n) d (ownO G (dunB op) v y h2) (vBin op v y h2) h2) (fun n sl h => rfl) (fun _ _ _ => mOwn) (fun _ _ _ z => own_ok z) k) (by simp only [w]) fun _ _ _ => rfl
  | .neg a => ok_tru (fun sl h Q E k => by
      simp only [w] at k
      exact ok_unF (ok_w a).1 (f := fun n v h1 => stOwn (run G n) d ((mthO G v "__neg__" h1).map fun k => (k, [v])) (vNeg v h1) h1) (fun n sl h => rfl) (fun _ _ => mOwn) (fun _ _ z => own_ok z) k) (by simp only [w]) fun _ _ _ => rfl
  | .cmp op a b => ok_bl (fun sl h Q E k => by
      simp only [w] at k
      exact ok_biF (ok_w a).1 (ok_w b).1 (f := fun n v y h2 => stCmp G (run G n) d op v y h2) (fun n sl h => rfl) (fun _ _ _ => mCmp) (fun _ _ _ z => cmp_ok z) k) (by simp only [w]) fun _ _ _ => rfl
  | .chn op op' a b c => ok_bl (fun sl h Q E k => by
      simp only [w] at k
      have ka := (ok_w a).1
      have kb := (ok_w b).1
      have kc := (ok_w c).1
      have mz : ∀ (y z : Val) (h3 : LH), Mon fun n => chnK z h3 fun h3 => ((run G n).e d c sl h3).bind fun u h4 => vCmp op' y u h4 := by
        intro y z h3 n m hn
        unfold chnK
        split
        · exact Lb.bind (mE _ _ hn) fun _ _ => .inr rfl
        · exact .inr rfl
        · exact .inr rfl
      refine x_e ?_
      show ∃ n, Hd (((run G n).e d a sl h).bind fun v h1 => ((run G n).e d b sl h1).bind fun y h2 => (vCmp op v y h2).bind fun z h3 => chnK z h3 fun h3 => ((run G n).e d c sl h3).bind fun u h4 => vCmp op' y u h4) Q E
      refine comb mE (fun v h => Mon.bind mE fun _ _ => Mon.bind (Mon.const _) fun _ _ => mz _ _ _) ?_
      refine (ka sl h _ E k).mono (fun v h1 k => ?_) fun _ _ _ z => z
      refine comb mE (fun v h => Mon.bind (Mon.const _) fun _ _ => mz _ _ _) ?_
      refine (kb sl h1 _ E k).mono (fun y h2 k => ?_) fun _ _ _ z => z
      refine comb (Mon.const _) (fun v h => mz _ _ _) ⟨0, ?_⟩
      refine k.mono (fun z h3 k => ?_) fun _ _ _ z => z
      split at k
      · refine comb mE (fun v h => Mon.const _) ?_
        exact (kc sl h3 _ E k).mono (fun v h1 z => ⟨0, z⟩) fun _ _ _ z => z
      · exact ⟨0, k⟩
      · exact k.elim) (by simp only [w]) fun _ _ _ => rfl
  | .nt a => by
      refine ⟨fun sl h Q E k => ?_, fun sl h Q E k => ?_⟩
      · simp only [w] at k
        refine x_e ?_
        show ∃ n, Hd (((run G n).e d a sl h).bind fun v h1 => match v with
          | .bl b => .ok (.bl (!b)) h1
          | _ => .bad) Q E
        refine comb mE (fun v h => Mon.const _) ?_
        refine ((ok_w a).1 sl h _ E k).mono (fun v h1 z => ⟨0, ?_⟩) fun _ _ _ z => z
        cases v with
        | bl b => exact z
        | _ => exact z.elim
      · simp only [w] at k
        refine x_t ?_
        show ∃ n, Hd (((run G n).t d a sl h).bind fun b h1 => .ok (!b) h1) Q E
        refine comb mT (fun v h => Mon.const _) ?_
        exact ((ok_w a).2 sl h _ E k).mono (fun v h1 z => ⟨0, z⟩) fun _ _ _ z => z
  | .an es => by
      refine ⟨fun sl h Q E k => ?_, fun sl h Q E k => ?_⟩
      · simp only [w] at k
        exact x_e (ok_an es sl h Q E k)
      · simp only [w] at k
        exact x_t (ok_tan es sl h Q E k)
  | .orr es => by
      refine ⟨fun sl h Q E k => ?_, fun sl h Q E k => ?_⟩
      · simp only [w] at k
        exact x_e (ok_or es sl h Q E k)
      · simp only [w] at k
        exact x_t (ok_tor es sl h Q E k)
  | .ife c a b => by
      refine ⟨fun sl h Q E k => ?_, fun sl h Q E k => by simp only [w] at k⟩
      simp only [w] at k
      refine x_e ?_
      show ∃ n, Hd (((run G n).t d c sl h).bind fun x h1 => match x with
        | true => (run G n).e d a sl h1
        | false => (run G n).e d b sl h1) Q E
      refine comb mT (fun v h => by cases v <;> exact mE) ?_
      refine ((ok_w c).2 sl h _ E k).mono (fun v h1 z => ?_) fun _ _ _ z => z
      cases v with
      | true => exact (ok_w a).1 sl h1 Q E z
      | false => exact (ok_w b).1 sl h1 Q E z
  | .tp es => ok_tru (fun sl h Q E k => by
      simp only [w] at k
      exact ok_li (ok_wl es) (f := fun _ vs h1 => chk (decide (vs.length ≤ sizeLine)) (.ok (.tup vs) h1)) (fun n sl h => rfl) (fun _ _ => Mon.const _) (fun v h1 z => ⟨0, hd_chk (decide_eq_true z.1) z.2⟩) k) (by simp only [w]) fun _ _ _ => rfl
  | .ls es => ok_tru (fun sl h Q E k => by
      simp only [w] at k
      exact ok_li (ok_wl es) (f := fun _ vs h1 => chk (decide (vs.length ≤ sizeLine)) (newL vs h1)) (fun n sl h => rfl) (fun _ _ => Mon.const _) (fun v h1 z => ⟨0, hd_chk (decide_eq_true z.1) z.2⟩) k) (by simp only [w]) fun _ _ _ => rfl
  | .cal f es => ok_tru (fun sl h Q E k => by
      simp only [w] at k
      obtain ⟨hd, k⟩ := k
      have kl := ok_wl es sl h _ E k
      obtain ⟨d, rfl⟩ : ∃ d', d = d' + 1 := ⟨d - 1, by omega⟩
      refine x_e ?_
      show ∃ n, Hd ((evL ((run G n).e (d + 1)) es sl h).bind fun vs h1 => (run G n).c d f vs h1) Q E
      refine comb mL (fun _ _ => mC) ?_
      exact kl.mono (fun v h1 z => z) fun _ _ _ z => z) (by simp only [w]) fun _ _ _ => rfl
  | .blt b es => ok_tru (fun sl h Q E k => by
      simp only [w] at k
      exact ok_li (ok_wl es) (f := fun _ vs h1 => vBi b vs h1) (fun n sl h => rfl) (fun _ _ => Mon.const _) (fun v h1 z => ⟨0, z⟩) k) (by simp only [w]) fun _ _ _ => rfl
  | .opn o es => ok_tru (fun sl h Q E k => by
      simp only [w] at k
      exact ok_li (ok_wl es) (f := fun _ vs h1 => vOp o vs h1) (fun n sl h => rfl) (fun _ _ => Mon.const _) (fun v h1 z => ⟨0, z⟩) k) (by simp only [w]) fun _ _ _ => rfl
  | .spl l bs es => ok_tru (fun sl h Q E k => by
      simp only [w] at k
      refine x_e ?_
      show ∃ n, Hd ((evS ((run G n).e d) bs es sl h).bind fun vs h1 => chk (decide (vs.length ≤ sizeLine)) (lsTp l vs h1)) Q E
      refine comb mSp (fun _ _ => Mon.const _) ?_
      obtain ⟨n, z⟩ := ok_sp es bs sl h _ E k
      exact ⟨n, z.mono (fun v h1 z => ⟨0, hd_chk (decide_eq_true z.1) z.2⟩) fun _ _ _ z => z⟩) (by simp only [w]) fun _ _ _ => rfl
  | .lrg a => ok_tru (fun sl h Q E k => by
      simp only [w] at k
      refine x_e ?_
      show ∃ n, Hd (((run G n).e d a sl h).bind fun v h1 => match v with
        | .int n => chk (decide (-(2 ^ 62) ≤ n ∧ n < 2 ^ 62 ∧ n.toNat ≤ 2 ^ 24)) (newL ((List.range n.toNat).map fun (i : Nat) => Val.int (i : Int)) h1)
        | _ => .bad) Q E
      refine comb mE (fun v h => Mon.const _) ?_
      refine ((ok_w a).1 sl h _ E k).mono (fun v h1 z => ⟨0, ?_⟩) fun _ _ _ z => z
      split at z
      · exact hd_chk (decide_eq_true z.1) z.2
      · exact z.elim) (by simp only [w]) fun _ _ _ => rfl
  | .mth m o es => ok_tru (fun sl h Q E k => by
      simp only [w] at k
      refine x_e ?_
      show ∃ n, Hd (((run G n).e d o sl h).bind fun v h1 => match okTy m v h1 with
        | true => (evL ((run G n).e d) es sl h1).bind fun vs h2 => vMt m v vs h2
        | false => .bad) Q E
      refine comb mE (fun v h n n' hn => ?_) ?_
      · split
        · exact Lb.bind (mL _ _ hn) fun _ _ => .inr rfl
        · exact .inr rfl
      · refine ((ok_w o).1 sl h _ E k).mono (fun v h1 z => ?_) fun _ _ _ z => z
        rw [z.1]
        refine comb mL (fun _ _ => Mon.const _) ?_
        exact (ok_wl es sl h1 _ E z.2).mono (fun v h1 z => ⟨0, z⟩) fun _ _ _ z => z) (by simp only [w]) fun _ _ _ => rfl
  | .ix a b => ok_tru (fun sl h Q E k => by
      simp only [w] at k
      exact ok_bi (ok_w a).1 (ok_w b).1 (f := fun v y h2 => vIx v y h2) (fun n sl h => rfl) k) (by simp only [w]) fun _ _ _ => rfl
  | .sl a lo hi => ok_tru (fun sl h Q E k => by
      match lo, hi with
      | none, none =>
        simp only [w] at k
        exact ok_un (ok_w a).1 (f := fun v h1 => vSl v none none h1) (fun n sl h => rfl) k
      | some l, none =>
        simp only [w] at k
        exact ok_bi (ok_w a).1 (ok_w l).1 (f := fun v x h2 => slI1 v x h2) (fun n sl h => rfl) k
      | none, some u =>
        simp only [w] at k
        exact ok_bi (ok_w a).1 (ok_w u).1 (f := fun v x h2 => slI2 v x h2) (fun n sl h => rfl) k
      | some l, some u =>
        simp only [w] at k
        refine x_e ?_
        show ∃ n, Hd (((run G n).e d a sl h).bind fun v h1 => ((run G n).e d l sl h1).bind fun x h2 => intK x fun i => ((run G n).e d u sl h2).bind fun y h3 => intK y fun j => vSl v (some i) (some j) h3) Q E
        have mz : ∀ (v x : Val) (h2 : LH), Mon fun n => intK x fun i => ((run G n).e d u sl h2).bind fun y h3 => intK y fun j => vSl v (some i) (some j) h3 := by
          intro v x h2 n m hn
          unfold intK
          cases x with
          | int i => exact Lb.bind (mE _ _ hn) fun _ _ => .inr rfl
          | _ => exact .inr rfl
        refine comb mE (fun v h => Mon.bind mE fun _ _ => mz _ _ _) ?_
        refine ((ok_w a).1 sl h _ E k).mono (fun v h1 k => ?_) fun _ _ _ z => z
        refine comb mE (fun _ _ => mz _ _ _) ?_
        refine ((ok_w l).1 sl h1 _ E k).mono (fun x h2 k => ?_) fun _ _ _ z => z
        cases x with
        | int i =>
          refine comb mE (fun _ _ => Mon.const _) ?_
          refine ((ok_w u).1 sl h2 _ E k).mono (fun y h3 k => ⟨0, ?_⟩) fun _ _ _ z => z
          cases y with
          | int j => exact k
          | _ => exact k.elim
        | _ => exact k.elim) (by match lo, hi with
        | none, none => simp only [w]
        | some _, none => simp only [w]
        | none, some _ => simp only [w]
        | some _, some _ => simp only [w]) fun _ _ _ => rfl
  | .mkE c a => ok_tru (fun sl h Q E k => by
      simp only [w] at k
      exact ok_un (ok_w a).1 (f := fun v h1 => .ok (.err c v) h1) (fun n sl h => rfl) k) (by simp only [w]) fun _ _ _ => rfl
  | .fld a => ok_tru (fun sl h Q E k => by
      simp only [w] at k
      exact ok_un (ok_w a).1 (f := fun v h1 => vFld G.errs v h1) (fun n sl h => rfl) k) (by simp only [w]) fun _ _ _ => rfl
  | .isi a c => ok_tru (fun sl h Q E k => by
      simp only [w] at k
      exact ok_un (ok_w a).1 (f := fun v h1 => vIsi G.isiT G.errs G.isC c v h1) (fun n sl h => rfl) k) (by simp only [w]) fun _ _ _ => rfl
  | .rpr a => ok_tru (fun sl h Q E k => by
      simp only [w] at k
      exact ok_unF (ok_w a).1 (f := fun n v h1 => stRpr G (run G n) d v h1) (fun n sl h => rfl) (fun _ _ => mRpr) (fun v h1 z => rpr_ok z) k) (by simp only [w]) fun _ _ _ => rfl
  | .fmt a => ok_tru (fun sl h Q E k => by
      simp only [w] at k
      exact ok_un (ok_w a).1 (f := fun v h1 => vFmt v h1) (fun n sl h => rfl) k) (by simp only [w]) fun _ _ _ => rfl
  | .js es => ok_tru (fun sl h Q E k => by
      simp only [w] at k
      exact x_e (ok_js es Str.empty sl h Q E k)) (by simp only [w]) fun _ _ _ => rfl
  | .dsp ks es => ok_tru (fun sl h Q E k => by
      cases ks with
      | nil =>
        simp only [w] at k
        exact x_e ⟨0, k⟩
      | cons c ks =>
        simp only [w] at k
        refine x_e ?_
        show ∃ n, Hd ((evL ((run G n).e d) es sl (h ++ [.dK []])).bind fun vs h1 => match h1[h.length]? with
          | some (.dK []) => chk (decide ((c :: ks).length = vs.length) && decide ((c :: ks).length ≤ 15)) (.ok (.loc h.length) (h1.set h.length (.dK (putAll [] (c :: ks) vs))))
          | _ => .bad) Q E
        refine comb mL (fun _ _ => Mon.const _) ?_
        refine (ok_wl es sl _ _ E k).mono (fun v h1 z => ⟨0, ?_⟩) fun _ _ _ z => z
        split at z
        · rename_i e
          first
            | exact hd_chk z.1 z.2
            | (rw [e]; exact hd_chk z.1 z.2)
        · exact z.elim) (by cases ks <;> simp only [w]) fun _ _ _ => rfl
  | .lc tg k es ifs el ow => ok_tru (fun sl h Q E z => by
      simp only [w] at z
      refine x_e ?_
      show ∃ n, Hd ((evL ((run G n).e d) es sl h).bind fun vs h1 => match mkSrc k vs h1 with
        | some s => (run G n).l d tg ifs el ow s 0 h1.length (wipeL sl ow) (h1 ++ [.lst []])
        | none => .bad) Q E
      refine comb mL (fun v h n n' hn => ?_) ?_
      · split
        · exact mLc n n' hn
        · exact .inr rfl
      · refine (ok_wl es sl h _ E z).mono (fun v h1 z => ?_) fun _ _ _ z => z
        obtain ⟨s, e, n, z⟩ := z
        rw [e]
        exact ⟨n, z⟩) (by simp only [w]) fun _ _ _ => rfl
  | .att a f => ok_tru (fun sl h Q E k => by
      simp only [w] at k
      refine x_e ?_
      show ∃ n, Hd (((run G n).e d a sl h).bind fun v h1 => stAtt G (run G n) d v f h1) Q E
      refine comb mE (fun v h => mAtt) ?_
      refine ((ok_w a).1 sl h _ E k).mono (fun v h1 z => ?_) fun _ _ _ z => z
      unfold wAtt at z
      unfold stAtt
      cases e : attO G v f h1 with
      | none => rw [e] at z; exact z.elim
      | some o =>
        rw [e] at z
        cases o with
        | inl y => exact ⟨0, z⟩
        | inr j =>
          obtain ⟨hd, n, z⟩ := z
          obtain ⟨d', rfl⟩ : ∃ d', d = d' + 2 := ⟨d - 2, by omega⟩
          refine ⟨n, ?_⟩
          show Hd (calm ((run G n).c d' j [v] h1)) Q E
          have z : Hd ((run G n).c d' j [v] h1) Q fun _ _ _ => False := z
          cases e2 : (run G n).c d' j [v] h1 with
          | ok y h2 => rw [e2] at z; exact z
          | exc _ _ _ => rw [e2] at z; exact z.elim
          | bad => rw [e2] at z; exact z.elim) (by simp only [w]) fun _ _ _ => rfl
  | .mk c es => ok_tru (fun sl h Q E k => by
      simp only [w] at k
      obtain ⟨hd, k⟩ := k
      have kl := ok_wl es sl h _ E k
      obtain ⟨d', rfl⟩ : ∃ d', d = d' + 2 := ⟨d - 2, by omega⟩
      refine x_e ?_
      show ∃ n, Hd ((evL ((run G n).e (d' + 2)) es sl h).bind fun vs h1 => stMk G (run G n) d' c vs h1) Q E
      refine comb mL (fun v h => mMk) ?_
      refine kl.mono (fun vs h1 z => ?_) fun _ _ _ z => z
      unfold wMk at z
      unfold stMk
      cases e : G.cls.lookup c with
      | none => rw [e] at z; exact z.elim
      | some I =>
        rw [e] at z
        obtain ⟨n, z⟩ := z
        refine ⟨n, ?_⟩
        show Hd (mkB h1.length ((run G n).c d' I.init _ _)) Q E
        have z : Hd ((run G n).c d' I.init (fillV G I.init (.loc h1.length :: vs)) (h1 ++ [.slt c []])) (fun v h2 => v = .non ∧ Q (.loc h1.length) h2) E := z
        cases e2 : (run G n).c d' I.init (fillV G I.init (.loc h1.length :: vs)) (h1 ++ [.slt c []]) with
        | ok y h2 =>
          rw [e2] at z
          obtain ⟨rfl, z⟩ := z
          exact z
        | exc _ _ _ => rw [e2] at z; exact z
        | bad => rw [e2] at z; exact z.elim) (by simp only [w]) fun _ _ _ => rfl
  | .mcl o m es => ok_tru (fun sl h Q E k => by
      simp only [w] at k
      refine x_e ?_
      show ∃ n, Hd (((run G n).e d o sl h).bind fun v h1 => stMcl G (run G n) d v m h1 fun h1 => evL ((run G n).e d) es sl h1) Q E
      refine comb mE (fun v h => mMcl) ?_
      refine ((ok_w o).1 sl h _ E k).mono (fun v h1 z => ?_) fun _ _ _ z => z
      obtain ⟨hd, z⟩ := z
      cases e : mthO G v m h1 with
      | none => rw [e] at z; exact z.elim
      | some j =>
        rw [e] at z
        have kl := ok_wl es sl h1 _ E z
        obtain ⟨d', rfl⟩ : ∃ d', d = d' + 1 := ⟨d - 1, by omega⟩
        have q : ∃ n, Hd ((evL ((run G n).e (d' + 1)) es sl h1).bind fun ws h2 => (run G n).c d' j (fillV G j (v :: ws)) h2) Q E := by
          refine comb mL (fun _ _ => mC) ?_
          exact kl.mono (fun v h1 z => z) fun _ _ _ z => z
        obtain ⟨n, q⟩ := q
        refine ⟨n, ?_⟩
        unfold stMcl
        rw [e]
        exact q) (by simp only [w]) fun _ _ _ => rfl
  | .nvr => ⟨fun sl h Q E k => by simp only [w] at k, fun sl h Q E k => by simp only [w] at k⟩
  | .tld a => ok_tru (fun sl h Q E k => by
      simp only [w] at k
      obtain ⟨hd, n, k⟩ := k
      refine x_e ⟨n, ?_⟩
      obtain ⟨d', rfl⟩ : ∃ d', d = d' + 2 := ⟨d - 2, by omega⟩
      have k : Hd ((run G n).e d' a sl h) (fun v h1 => Q (.tup [.non, v]) h1) (fun c v h1 => G.errs.contains c = true ∧ Q (.tup [.err c v, .non]) h1) := k
      show Hd (vTold G.errs ((run G n).e d' a sl h)) Q E
      cases e2 : (run G n).e d' a sl h with
      | ok y h2 => rw [e2] at k; exact k
      | exc c v h2 =>
        rw [e2] at k
        obtain ⟨k1, k2⟩ := k
        show Hd (chk (G.errs.contains c) (.ok (.tup [.err c v, .non]) h2)) Q E
        rw [k1]
        exact k2
      | bad => rw [e2] at k; exact k.elim) (by simp only [w]) fun _ _ _ => rfl
theorem ok_js : ∀ es acc sl h Q E, wJs G d es acc sl h Q E → ∃ n, Hd (jsR ((run G n).e d) es acc sl h) Q E
  | [], acc, sl, h, Q, E, k => by
    simp only [wJs] at k
    exact ⟨0, k⟩
  | a :: es, acc, sl, h, Q, E, k => by
    simp only [wJs] at k
    show ∃ n, Hd (((run G n).e d a sl h).bind fun v h1 => match v with
      | .str y => chk (decide ((acc ++ y).length ≤ sizeLine)) (jsR ((run G n).e d) es (acc ++ y) sl h1)
      | _ => .bad) Q E
    refine comb mE (fun v h => mJs) ?_
    refine ((ok_w a).1 sl h _ E k).mono (fun v h1 z => ?_) fun _ _ _ z => z
    cases v with
    | str y =>
      obtain ⟨z1, z2⟩ := z
      obtain ⟨n, z3⟩ := ok_js es (acc ++ y) sl h1 Q E z2
      refine ⟨n, ?_⟩
      show Hd (chk (decide ((acc ++ y).length ≤ sizeLine)) (jsR ((run G n).e d) es (acc ++ y) sl h1)) Q E
      rw [decide_eq_true z1]
      exact z3
    | _ => exact z.elim
theorem ok_sp : ∀ es bs sl h Q E, wSp G d es bs sl h Q E → ∃ n, Hd (evS ((run G n).e d) bs es sl h) Q E
  | [], bs, sl, h, Q, E, k => by
    simp only [wSp] at k
    cases bs with
    | nil => exact ⟨0, k⟩
    | cons _ _ => exact k.elim
  | a :: es, bs, sl, h, Q, E, k => by
    simp only [wSp] at k
    cases bs with
    | nil => exact k.elim
    | cons b bs =>
      show ∃ n, Hd (((run G n).e d a sl h).bind fun v h1 => match b with
        | false => (evS ((run G n).e d) bs es sl h1).bind fun vs h2 => .ok (v :: vs) h2
        | true => (match seqA v h1 with
          | some xs => (evS ((run G n).e d) bs es sl h1).bind fun vs h2 => .ok (xs ++ vs) h2
          | none => .bad)) Q E
      refine comb mE (fun v h => ?_) ?_
      · cases b with
        | false => exact Mon.bind mSp fun _ _ => Mon.const _
        | true =>
          dsimp only
          cases seqA v h with
          | none => exact Mon.const _
          | some xs => exact Mon.bind mSp fun _ _ => Mon.const _
      · refine ((ok_w a).1 sl h _ E k).mono (fun v h1 z => ?_) fun _ _ _ z => z
        cases b with
        | false =>
          refine comb mSp (fun _ _ => Mon.const _) ?_
          obtain ⟨n, y⟩ := ok_sp es bs sl h1 _ E z
          exact ⟨n, y.mono (fun v h1 z => ⟨0, z⟩) fun _ _ _ z => z⟩
        | true =>
          dsimp only at z ⊢
          cases e : seqA v h1 with
          | none => rw [e] at z; exact z.elim
          | some xs =>
            rw [e] at z
            refine comb mSp (fun _ _ => Mon.const _) ?_
            obtain ⟨n, y⟩ := ok_sp es bs sl h1 _ E z
            exact ⟨n, y.mono (fun v h1 z => ⟨0, z⟩) fun _ _ _ z => z⟩
theorem ok_wl : ∀ es, OkL G d es
  | [] => fun sl h Q E k => by
    simp only [wL] at k
    exact ⟨0, k⟩
  | a :: es => fun sl h Q E k => by
    simp only [wL] at k
    show ∃ n, Hd (((run G n).e d a sl h).bind fun v h1 => (evL ((run G n).e d) es sl h1).bind fun vs h2 => .ok (v :: vs) h2) Q E
    refine comb mE (fun v h => Mon.bind mL fun _ _ => Mon.const _) ?_
    refine ((ok_w a).1 sl h _ E k).mono (fun v h1 k => ?_) fun _ _ _ z => z
    refine comb mL (fun _ _ => Mon.const _) ?_
    exact (ok_wl es sl h1 _ E k).mono (fun v h1 z => ⟨0, z⟩) fun _ _ _ z => z
theorem ok_an : ∀ es sl h Q E, wAn G d es sl h Q E → ∃ n, Hd (evAn ((run G n).e d) es sl h) Q E
  | [], sl, h, Q, E, k => by simp only [wAn] at k
  | [a], sl, h, Q, E, k => by
    simp only [wAn] at k
    exact (ok_w a).1 sl h Q E k
  | a :: b :: es, sl, h, Q, E, k => by
    rw [wAn] at k
    show ∃ n, Hd (((run G n).e d a sl h).bind fun v h1 => match v with
      | .bl true => evAn ((run G n).e d) (b :: es) sl h1
      | .bl false => .ok (.bl false) h1
      | _ => .bad) Q E
    have mm : ∀ h1, Mon fun n => evAn ((run G n).e d) (b :: es) sl h1 := fun h1 n m hn => by
      obtain ⟨j, rfl⟩ := Nat.exists_eq_add_of_le hn
      exact evAn_le (fun i sl h => (run_le G 0 j n).e d i sl h) (b :: es) sl h1
    refine comb mE (fun v h n n' hn => ?_) ?_
    · split
      · exact mm _ n n' hn
      · exact .inr rfl
      · exact .inr rfl
    · refine ((ok_w a).1 sl h _ E k).mono (fun v h1 k => ?_) fun _ _ _ z => z
      split at k
      · exact ok_an (b :: es) sl h1 Q E k
      · exact ⟨0, k⟩
      · exact k.elim
theorem ok_or : ∀ es sl h Q E, wOr G d es sl h Q E → ∃ n, Hd (evOr ((run G n).e d) es sl h) Q E
  | [], sl, h, Q, E, k => by simp only [wOr] at k
  | [a], sl, h, Q, E, k => by
    simp only [wOr] at k
    exact (ok_w a).1 sl h Q E k
  | a :: b :: es, sl, h, Q, E, k => by
    rw [wOr] at k
    show ∃ n, Hd (((run G n).e d a sl h).bind fun v h1 => match v with
      | .bl true => .ok (.bl true) h1
      | .bl false => evOr ((run G n).e d) (b :: es) sl h1
      | _ => .bad) Q E
    have mm : ∀ h1, Mon fun n => evOr ((run G n).e d) (b :: es) sl h1 := fun h1 n m hn => by
      obtain ⟨j, rfl⟩ := Nat.exists_eq_add_of_le hn
      exact evOr_le (fun i sl h => (run_le G 0 j n).e d i sl h) (b :: es) sl h1
    refine comb mE (fun v h n n' hn => ?_) ?_
    · split
      · exact .inr rfl
      · exact mm _ n n' hn
      · exact .inr rfl
    · refine ((ok_w a).1 sl h _ E k).mono (fun v h1 k => ?_) fun _ _ _ z => z
      split at k
      · exact ⟨0, k⟩
      · exact ok_or (b :: es) sl h1 Q E k
      · exact k.elim
theorem ok_tan : ∀ es sl h Q E, tAn G d es sl h Q E → ∃ n, Hd (tsAn ((run G n).t d) es sl h) Q E
  | [], sl, h, Q, E, k => by simp only [tAn] at k
  | [a], sl, h, Q, E, k => by
    simp only [tAn] at k
    exact (ok_w a).2 sl h Q E k
  | a :: b :: es, sl, h, Q, E, k => by
    rw [tAn] at k
    show ∃ n, Hd (((run G n).t d a sl h).bind fun v h1 => match v with
      | true => tsAn ((run G n).t d) (b :: es) sl h1
      | false => .ok false h1) Q E
    have mm : ∀ h1, Mon fun n => tsAn ((run G n).t d) (b :: es) sl h1 := fun h1 n m hn => by
      obtain ⟨j, rfl⟩ := Nat.exists_eq_add_of_le hn
      exact tsAn_le (fun i sl h => (run_le G 0 j n).t d i sl h) (b :: es) sl h1
    refine comb mT (fun v h n n' hn => ?_) ?_
    · split
      · exact mm _ n n' hn
      · exact .inr rfl
    · refine ((ok_w a).2 sl h _ E k).mono (fun v h1 k => ?_) fun _ _ _ z => z
      cases v with
      | true => exact ok_tan (b :: es) sl h1 Q E k
      | false => exact ⟨0, k⟩
theorem ok_tor : ∀ es sl h Q E, tOr G d es sl h Q E → ∃ n, Hd (tsOr ((run G n).t d) es sl h) Q E
  | [], sl, h, Q, E, k => by simp only [tOr] at k
  | [a], sl, h, Q, E, k => by
    simp only [tOr] at k
    exact (ok_w a).2 sl h Q E k
  | a :: b :: es, sl, h, Q, E, k => by
    rw [tOr] at k
    show ∃ n, Hd (((run G n).t d a sl h).bind fun v h1 => match v with
      | true => .ok true h1
      | false => tsOr ((run G n).t d) (b :: es) sl h1) Q E
    have mm : ∀ h1, Mon fun n => tsOr ((run G n).t d) (b :: es) sl h1 := fun h1 n m hn => by
      obtain ⟨j, rfl⟩ := Nat.exists_eq_add_of_le hn
      exact tsOr_le (fun i sl h => (run_le G 0 j n).t d i sl h) (b :: es) sl h1
    refine comb mT (fun v h n n' hn => ?_) ?_
    · split
      · exact .inr rfl
      · exact mm _ n n' hn
    · refine ((ok_w a).2 sl h _ E k).mono (fun v h1 k => ?_) fun _ _ _ z => z
      cases v with
      | true => exact ⟨0, k⟩
      | false => exact ok_tor (b :: es) sl h1 Q E k
end
end
end Mi

set_option Elab.async false
set_option linter.all false
set_option maxRecDepth 100000
set_option maxHeartbeats 1000000
/-! W3: blocks, loops, calls. -/
namespace Mi
open PySem L2
abbrev KS := RsS → Prop
section
variable (G : Prg) (d : Nat)
mutual
def wS1 : IS → LS → LH → KS → Prop
  | .ex e => fun sl h K => (w G d e).1 sl h (fun _ h1 => K (.nx sl h1)) fun c v h1 => K (.exc c v sl h1)
  | .asg tg e => fun sl h K => (w G d e).1 sl h (fun v h1 => match bindT tg v sl with
      | some sl1 => K (.nx sl1 h1)
      | none => False) fun c v h1 => K (.exc c v sl h1)
  | .sub o i e => fun sl h K => (w G d e).1 sl h (fun v h1 => (w G d o).1 sl h1 (fun ov h2 => (w G d i).1 sl h2 (fun iv h3 => match vSet ov iv v h3 with
      | some h4 => K (.nx sl h4)
      | none => False) fun c v h1 => K (.exc c v sl h1)) fun c v h1 => K (.exc c v sl h1)) fun c v h1 => K (.exc c v sl h1)
  | .ret none => fun sl h K => K (.rt .non h)
  | .ret (some e) => fun sl h K => (w G d e).1 sl h (fun v h1 => K (.rt v h1)) fun c v h1 => K (.exc c v sl h1)
  | .iff c a b => fun sl h K => (w G d c).2 sl h (fun x h1 => match x with
      | true => wS a sl h1 K
      | false => wS b sl h1 K) fun c v h1 => K (.exc c v sl h1)
  | .for_ tg k es body => fun sl h K => wL G d es sl h (fun vs h1 => ∃ s, mkSrc k vs h1 = some s ∧ XF G d tg body s 0 sl h1 K) fun c v h1 => K (.exc c v sl h1)
  | .whl c body => fun sl h K => XW G d c body sl h K
  | .brk => fun sl h K => K (.bk sl h)
  | .cnt => fun sl h K => K (.ct sl h)
  | .pas => fun sl h K => K (.nx sl h)
  | .nev => fun sl h K => False
  | .sta o f e => fun sl h K => (w G d e).1 sl h (fun v h1 => (w G d o).1 sl h1 (fun ov h2 => match vSta G ov f v h2 with
      | some h3 => K (.nx sl h3)
      | none => False) fun c v h1 => K (.exc c v sl h1)) fun c v h1 => K (.exc c v sl h1)
  | .rse c e => fun sl h K => (w G d e).1 sl h (fun v h1 => G.errs.contains c = true ∧ K (.exc c v sl h1)) fun c v h1 => K (.exc c v sl h1)
def wS : List IS → LS → LH → KS → Prop
  | [] => fun sl h K => K (.nx sl h)
  | s :: rest => fun sl h K => wS1 s sl h fun x => match x with
    | .nx sl1 h1 => wS rest sl1 h1 K
    | .rt v h1 => K (.rt v h1)
    | .bk sl1 h1 => K (.bk sl1 h1)
    | .ct sl1 h1 => K (.ct sl1 h1)
    | .exc c v sl1 h1 => K (.exc c v sl1 h1)
    | .bad => False
end
end
section
variable {G : Prg} {d : Nat} {sl : LS} {h : LH} {K : KS}
theorem XS.mono {b : List IS} {K' : KS} (k : XS G d b sl h K) (m : ∀ x, K x → K' x) : XS G d b sl h K' := k.elim fun n k => ⟨n, k.mono m⟩
theorem XF.mono {tg : ITg} {b : List IS} {s : Src} {i : Nat} {K' : KS} (k : XF G d tg b s i sl h K) (m : ∀ x, K x → K' x) : XF G d tg b s i sl h K' := k.elim fun n k => ⟨n, k.mono m⟩
theorem combR {r : Nat → Res Val} {F : Nat → Val → LH → RsS} (m : Mon r) (f : ∀ v h, MonS fun n => F n v h) (k : ∃ n, Hd (r n) (fun v h => ∃ n, HdS (F n v h) K) fun c v h1 => K (.exc c v sl h1)) : ∃ n, HdS (ofR (r n) sl (F n)) K :=
  combS (O := fun x g => ofR x sl g) m f (fun _ _ _ => rfl) (fun _ _ _ _ z => z) k
theorem combB {r : Nat → Res Bool} {F : Nat → Bool → LH → RsS} (m : Mon r) (f : ∀ v h, MonS fun n => F n v h) (k : ∃ n, Hd (r n) (fun v h => ∃ n, HdS (F n v h) K) fun c v h1 => K (.exc c v sl h1)) : ∃ n, HdS (ofRB (r n) sl (F n)) K :=
  combS (O := fun x g => ofRB x sl g) m f (fun _ _ _ => rfl) (fun _ _ _ _ z => z) k
theorem combL {r : Nat → Res (List Val)} {F : Nat → List Val → LH → RsS} (m : Mon r) (f : ∀ v h, MonS fun n => F n v h) (k : ∃ n, Hd (r n) (fun v h => ∃ n, HdS (F n v h) K) fun c v h1 => K (.exc c v sl h1)) : ∃ n, HdS (ofRL (r n) sl (F n)) K :=
  combS (O := fun x g => ofRL x sl g) m f (fun _ _ _ => rfl) (fun _ _ _ _ z => z) k
theorem MonS.ofR {r : Nat → Res Val} {F : Nat → Val → LH → RsS} (m : Mon r) (f : ∀ v h, MonS fun n => F n v h) : MonS fun n => ofR (r n) sl (F n) := fun n k hn => LbS.ofR (m n k hn) fun v h => f v h n k hn
/-- one statement, then what follows -/
theorem seqS {r : Nat → RsS} {F : Nat → LS → LH → RsS} (m : MonS r) (f : ∀ sl h, MonS fun n => F n sl h) (k : ∃ n, HdS (r n) fun x => match x with
    | .nx sl1 h1 => ∃ n, HdS (F n sl1 h1) K
    | .rt v h1 => K (.rt v h1)
    | .bk sl1 h1 => K (.bk sl1 h1)
    | .ct sl1 h1 => K (.ct sl1 h1)
    | .exc c v sl1 h1 => K (.exc c v sl1 h1)
    | .bad => False) : ∃ n, HdS (match r n with
    | .nx sl1 h1 => F n sl1 h1
    | x => x) K := by
  obtain ⟨n, k⟩ := k
  cases e : r n with
  | bad => rw [e] at k; exact k.elim
  | rt v h => refine ⟨n, ?_⟩; rw [e] at k ⊢; exact k
  | bk v h => refine ⟨n, ?_⟩; rw [e] at k ⊢; exact k
  | ct v h => refine ⟨n, ?_⟩; rw [e] at k ⊢; exact k
  | exc c v sl h => refine ⟨n, ?_⟩; rw [e] at k ⊢; exact k
  | nx sl1 h1 =>
    have k0 := k
    rw [e] at k
    obtain ⟨j, k⟩ := k
    refine ⟨max n j, ?_⟩
    rw [(m.up k0 (Nat.le_max_left n j)).2, e]
    exact ((f sl1 h1).up k (Nat.le_max_right n j)).1
/-- a loop's turn, then the next -/
theorem seqF {r : Nat → RsS} {F : Nat → LS → LH → RsS} (m : MonS r) (f : ∀ sl h, MonS fun n => F n sl h) (k : ∃ n, HdS (r n) fun x => match x with
    | .nx sl1 h1 => ∃ n, HdS (F n sl1 h1) K
    | .ct sl1 h1 => ∃ n, HdS (F n sl1 h1) K
    | .rt v h1 => K (.rt v h1)
    | .bk sl1 h1 => K (.nx sl1 h1)
    | .exc c v sl1 h1 => K (.exc c v sl1 h1)
    | .bad => False) : ∃ n, HdS (match r n with
    | .nx sl1 h1 => F n sl1 h1
    | .ct sl1 h1 => F n sl1 h1
    | .bk sl1 h1 => .nx sl1 h1
    | x => x) K := by
  obtain ⟨n, k⟩ := k
  cases e : r n with
  | bad => rw [e] at k; exact k.elim
  | rt v h => refine ⟨n, ?_⟩; rw [e] at k ⊢; exact k
  | bk v h => refine ⟨n, ?_⟩; rw [e] at k ⊢; exact k
  | exc c v sl h => refine ⟨n, ?_⟩; rw [e] at k ⊢; exact k
  | nx sl1 h1 =>
    have k0 := k
    rw [e] at k
    obtain ⟨j, k⟩ := k
    refine ⟨max n j, ?_⟩
    rw [(m.up k0 (Nat.le_max_left n j)).2, e]
    exact ((f sl1 h1).up k (Nat.le_max_right n j)).1
  | ct sl1 h1 =>
    have k0 := k
    rw [e] at k
    obtain ⟨j, k⟩ := k
    refine ⟨max n j, ?_⟩
    rw [(m.up k0 (Nat.le_max_left n j)).2, e]
    exact ((f sl1 h1).up k (Nat.le_max_right n j)).1
mutual
theorem ok_s1 : ∀ (st : IS) (sl : LS) (h : LH) (K : KS), wS1 G d st sl h K → X1 G d st sl h K
  | .ex e, sl, h, K, k => by
    rw [wS1] at k
    refine combR (F := fun _ _ h1 => .nx sl h1) mE (fun _ _ => MonS.const _) ?_
    exact ((ok_w e).1 sl h _ _ k).mono (fun v h1 z => ⟨0, z⟩) fun _ _ _ z => z
  | .asg tg e, sl, h, K, k => by
    rw [wS1] at k
    refine combR (F := fun _ v h1 => nxB tg v sl h1) mE (fun _ _ => MonS.const _) ?_
    refine ((ok_w e).1 sl h _ _ k).mono (fun v h1 z => ⟨0, ?_⟩) fun _ _ _ z => z
    unfold nxB
    split at z
    · rename_i e1; first | exact z | (rw [e1]; exact z)
    · exact z.elim
  | .sub o i e, sl, h, K, k => by
    rw [wS1] at k
    have mv : ∀ (v : Val) (h1 : LH), MonS fun n => ofR ((run G n).e d o sl h1) sl fun ov h2 => ofR ((run G n).e d i sl h2) sl fun iv h3 => match vSet ov iv v h3 with
      | some h4 => .nx sl h4
      | none => .bad := fun v h1 => MonS.ofR mE fun _ _ => MonS.ofR mE fun _ _ => MonS.const _
    refine combR (F := fun n v h1 => ofR ((run G n).e d o sl h1) sl fun ov h2 => ofR ((run G n).e d i sl h2) sl fun iv h3 => match vSet ov iv v h3 with
      | some h4 => .nx sl h4
      | none => .bad) mE mv ?_
    refine ((ok_w e).1 sl h _ _ k).mono (fun v h1 z => ?_) fun _ _ _ z => z
    refine combR (F := fun n ov h2 => ofR ((run G n).e d i sl h2) sl fun iv h3 => match vSet ov iv v h3 with
      | some h4 => .nx sl h4
      | none => .bad) mE (fun _ _ => MonS.ofR mE fun _ _ => MonS.const _) ?_
    refine ((ok_w o).1 sl h1 _ _ z).mono (fun ov h2 z => ?_) fun _ _ _ z => z
    refine combR (F := fun n iv h3 => match vSet ov iv v h3 with
      | some h4 => .nx sl h4
      | none => .bad) mE (fun _ _ => MonS.const _) ?_
    refine ((ok_w i).1 sl h2 _ _ z).mono (fun iv h3 z => ⟨0, ?_⟩) fun _ _ _ z => z
    split at z
    · exact z
    · exact z.elim
  | .ret none, sl, h, K, k => by
    rw [wS1] at k
    exact ⟨0, k⟩
  | .ret (some e), sl, h, K, k => by
    rw [wS1] at k
    refine combR (F := fun _ v h1 => .rt v h1) mE (fun _ _ => MonS.const _) ?_
    exact ((ok_w e).1 sl h _ _ k).mono (fun v h1 z => ⟨0, z⟩) fun _ _ _ z => z
  | .iff c a b, sl, h, K, k => by
    rw [wS1] at k
    refine combB (F := fun n x h1 => match x with
      | true => (run G n).s d a sl h1
      | false => (run G n).s d b sl h1) mT (fun v h => by cases v <;> exact mS) ?_
    refine ((ok_w c).2 sl h _ _ k).mono (fun v h1 z => ?_) fun _ _ _ z => z
    cases v with
    | true => exact ok_s a sl h1 K z
    | false => exact ok_s b sl h1 K z
  | .for_ tg k es body, sl, h, K, z => by
    rw [wS1] at z
    refine combL (F := fun n vs h1 => match mkSrc k vs h1 with
      | some s => (run G n).f d tg body s 0 sl h1
      | none => .bad) mL (fun v h n n' hn => ?_) ?_
    · dsimp only
      split
      · exact mF n n' hn
      · exact .inr rfl
    · refine ((ok_wl es) sl h _ _ z).mono (fun v h1 z => ?_) fun _ _ _ z => z
      obtain ⟨s, e, n, z⟩ := z
      refine ⟨n, ?_⟩
      rw [e]
      exact z
  | .whl c body, sl, h, K, k => by
    rw [wS1] at k
    exact k
  | .brk, sl, h, K, k => by rw [wS1] at k; exact ⟨0, k⟩
  | .cnt, sl, h, K, k => by rw [wS1] at k; exact ⟨0, k⟩
  | .pas, sl, h, K, k => by rw [wS1] at k; exact ⟨0, k⟩
  | .nev, sl, h, K, k => by rw [wS1] at k; exact k.elim
  | .sta o f e, sl, h, K, k => by
    rw [wS1] at k
    refine combR (F := fun n v h1 => ofR ((run G n).e d o sl h1) sl fun ov h2 => match vSta G ov f v h2 with
      | some h3 => .nx sl h3
      | none => .bad) mE (fun _ _ => MonS.ofR mE fun _ _ => MonS.const _) ?_
    refine ((ok_w e).1 sl h _ _ k).mono (fun v h1 z => ?_) fun _ _ _ z => z
    refine combR (F := fun n ov h2 => match vSta G ov f v h2 with
      | some h3 => .nx sl h3
      | none => .bad) mE (fun _ _ => MonS.const _) ?_
    refine ((ok_w o).1 sl h1 _ _ z).mono (fun ov h2 z => ⟨0, ?_⟩) fun _ _ _ z => z
    split at z
    · rename_i e1; first | exact z | (rw [e1]; exact z)
    · exact z.elim
  | .rse c e, sl, h, K, k => by
    rw [wS1] at k
    refine combR (F := fun _ v h1 => match G.errs.contains c with
      | true => .exc c v sl h1
      | false => .bad) mE (fun _ _ => MonS.const _) ?_
    refine ((ok_w e).1 sl h _ _ k).mono (fun v h1 z => ⟨0, ?_⟩) fun _ _ _ z => z
    rw [z.1]
    exact z.2
theorem ok_s : ∀ (b : List IS) (sl : LS) (h : LH) (K : KS), wS G d b sl h K → XS G d b sl h K
  | [], sl, h, K, k => by
    rw [wS] at k
    exact ⟨1, k⟩
  | s :: rest, sl, h, K, k => by
    rw [wS] at k
    have q : ∃ n, HdS (match stS1 G (run G n) d s sl h with
      | .nx sl1 h1 => (run G n).s d rest sl1 h1
      | x => x) K := by
      refine seqS (F := fun n sl1 h1 => (run G n).s d rest sl1 h1) m1 (fun _ _ => mS) ?_
      obtain ⟨n, z⟩ := ok_s1 s sl h _ k
      refine ⟨n, z.mono fun x z => ?_⟩
      cases x with
      | nx sl1 h1 => exact ok_s rest sl1 h1 K z
      | _ => exact z
    exact q.elim fun n q => ⟨n + 1, q⟩
end
/-! ### loops -/
/-- a turn of a for -/
def KF (K : KS) (I : LS → LH → Prop) : KS := fun x => match x with
  | .nx sl1 h1 => I sl1 h1
  | .ct sl1 h1 => I sl1 h1
  | .rt v h1 => K (.rt v h1)
  | .bk sl1 h1 => K (.nx sl1 h1)
  | .exc c v sl1 h1 => K (.exc c v sl1 h1)
  | .bad => False
theorem xf_stop {tg : ITg} {b : List IS} {s : Src} {i : Nat} (e : item s i h = some none) (k : K (.nx sl h)) : XF G d tg b s i sl h K := ⟨1, by
  show HdS (stF (run G 0) d tg b s i sl h) K
  unfold stF
  rw [e]
  exact k⟩
theorem xf_go {tg : ITg} {b : List IS} {s : Src} {i : Nat} {v : Val} {sl1 : LS} (e : item s i h = some (some v)) (eb : bindT tg v sl = some sl1) (k : wS G d b sl1 h (KF K fun sl2 h2 => XF G d tg b s (i + 1) sl2 h2 K)) : XF G d tg b s i sl h K := by
  have q : ∃ n, HdS (match (run G n).s d b sl1 h with
      | .nx sl2 h2 => (run G n).f d tg b s (i + 1) sl2 h2
      | .ct sl2 h2 => (run G n).f d tg b s (i + 1) sl2 h2
      | .bk sl2 h2 => .nx sl2 h2
      | x => x) K := by
    refine seqF (F := fun n sl2 h2 => (run G n).f d tg b s (i + 1) sl2 h2) mS (fun _ _ => mF) ?_
    refine (ok_s b sl1 h _ k).mono fun x z => ?_
    cases x <;> exact z
  obtain ⟨n, q⟩ := q
  refine ⟨n + 1, ?_⟩
  show HdS (stF (run G n) d tg b s i sl h) K
  unfold stF
  rw [e]
  dsimp only
  rw [eb]
  exact q
/-- a for by an invariant over the turn, the slots, the heap -/
theorem xf_inv {tg : ITg} {b : List IS} {s : Src} (N : Nat) (I : Nat → LS → LH → Prop) (h0 : I 0 sl h)
    (hs : ∀ i sl h, i < N → I i sl h → ∃ v sl1, item s i h = some (some v) ∧ bindT tg v sl = some sl1 ∧ wS G d b sl1 h (KF K (I (i + 1))))
    (he : ∀ sl h, I N sl h → item s N h = some none ∧ K (.nx sl h)) : XF G d tg b s 0 sl h K := by
  have go : ∀ (j i : Nat) (sl : LS) (h : LH), i + j = N → I i sl h → XF G d tg b s i sl h K := by
    intro j
    induction j with
    | zero =>
      intro i sl h e k
      obtain ⟨e1, e2⟩ := he sl h (by rw [← e]; exact k)
      exact xf_stop (by rw [show i = N by omega]; exact e1) e2
    | succ j ih =>
      intro i sl h e k
      obtain ⟨v, sl1, e1, e2, e3⟩ := hs i sl h (by omega) k
      have q : ∃ n, HdS (match (run G n).s d b sl1 h with
          | .nx sl2 h2 => (run G n).f d tg b s (i + 1) sl2 h2
          | .ct sl2 h2 => (run G n).f d tg b s (i + 1) sl2 h2
          | .bk sl2 h2 => .nx sl2 h2
          | x => x) K := by
        refine seqF (F := fun n sl2 h2 => (run G n).f d tg b s (i + 1) sl2 h2) mS (fun _ _ => mF) ?_
        refine (ok_s b sl1 h _ e3).mono fun x z => ?_
        cases x with
        | nx sl2 h2 => exact ih (i + 1) sl2 h2 (by omega) z
        | ct sl2 h2 => exact ih (i + 1) sl2 h2 (by omega) z
        | _ => exact z
      obtain ⟨n, q⟩ := q
      refine ⟨n + 1, ?_⟩
      show HdS (stF (run G n) d tg b s i sl h) K
      unfold stF
      rw [e1]
      dsimp only
      rw [e2]
      exact q
  exact go N 0 sl h (by omega) h0
/-- a while by an invariant and a number that falls -/
theorem xw_inv {c : IE} {b : List IS} (m : LS → LH → Nat) (I : LS → LH → Prop) (h0 : I sl h)
    (hs : ∀ sl h, I sl h → (w G d c).2 sl h (fun x h1 => match x with
      | false => K (.nx sl h1)
      | true => wS G d b sl h1 (KF K fun sl2 h2 => I sl2 h2 ∧ m sl2 h2 < m sl h)) fun c v h1 => K (.exc c v sl h1)) : XW G d c b sl h K := by
  have go : ∀ (j : Nat) (sl : LS) (h : LH), m sl h < j → I sl h → XW G d c b sl h K := by
    intro j
    induction j with
    | zero => intro sl h e; omega
    | succ j ih =>
      intro sl h e k
      have q : ∃ n, HdS (ofRB ((run G n).t d c sl h) sl fun x h1 => match x with
        | false => .nx sl h1
        | true => (match (run G n).s d b sl h1 with
          | .nx sl2 h2 => (run G n).w d c b sl2 h2
          | .ct sl2 h2 => (run G n).w d c b sl2 h2
          | .bk sl2 h2 => .nx sl2 h2
          | x => x)) K := by
        refine combB (F := fun n x h1 => match x with
          | false => .nx sl h1
          | true => (match (run G n).s d b sl h1 with
            | .nx sl2 h2 => (run G n).w d c b sl2 h2
            | .ct sl2 h2 => (run G n).w d c b sl2 h2
            | .bk sl2 h2 => .nx sl2 h2
            | x => x)) mT (fun v h1 n n' hn => ?_) ?_
        · cases v with
          | false => exact .inr rfl
          | true =>
            dsimp only
            rcases mS (G := G) (d := d) (b := b) (sl := sl) (h := h1) n n' hn with z | z
            · left
              dsimp only at z
              rw [z]
            · dsimp only at z
              rw [z]
              cases (run G n).s d b sl h1 with
              | nx _ _ => exact mW n n' hn
              | ct _ _ => exact mW n n' hn
              | _ => exact .inr rfl
        · refine ((ok_w c).2 sl h _ _ (hs sl h k)).mono (fun v h1 z => ?_) fun _ _ _ z => z
          cases v with
          | false => exact ⟨0, z⟩
          | true =>
            refine seqF (F := fun n sl2 h2 => (run G n).w d c b sl2 h2) mS (fun _ _ => mW) ?_
            refine (ok_s b sl h1 _ z).mono fun x z => ?_
            cases x with
            | nx sl2 h2 => exact ih sl2 h2 (by have := z.2; omega) z.1
            | ct sl2 h2 => exact ih sl2 h2 (by have := z.2; omega) z.1
            | _ => exact z
      exact q.elim fun n q => ⟨n + 1, q⟩
  exact go _ sl h (Nat.lt_succ_self _) h0
/-! ### comprehensions -/
section
variable {tg : ITg} {ifs : List IE} {el : IE} {ow : List Nat} {s : Src} {i D : Nat} {Q : Val → LH → Prop} {E : EP}
theorem xl_stop (e : item s i h = some none) (k : Q (.loc D) h) : XLc G d tg ifs el ow s i D sl h Q E := ⟨1, by
  show Hd (stL (run G 0) d tg ifs el ow s i D sl h) Q E
  unfold stL
  rw [e]
  exact k⟩
/-- a turn without a condition -/
def noX : EP := fun _ _ _ => False
theorem calm_of {α : Type} {r : Res α} {P : α → LH → Prop} (k : Hd r P noX) : calm r = r := by
  cases r with
  | exc _ _ _ => exact k.elim
  | _ => rfl
theorem xl_turn (F : Val → LH → Prop) {v : Val} {sl1 : LS} (e : item s i h = some (some v)) (eb : bindT tg v sl = some sl1) (k : XE G d el sl1 h (fun y h1 => ∃ acc, h1[D]? = some (.lst acc) ∧ acc.length < sizeLine ∧ XLc G d tg [] el ow s (i + 1) D sl (h1.set D (.lst (acc ++ [y]))) Q E) noX) : XLc G d tg [] el ow s i D sl h Q E := by
  obtain ⟨n, k⟩ := k
  have hc := calm_of k
  cases e0 : (run G n).e d el sl1 h with
  | bad => rw [e0] at k; exact k.elim
  | exc _ _ _ => rw [e0] at k; exact k.elim
  | ok y h1 =>
    have k0 := k
    rw [e0] at k
    obtain ⟨acc, e1, e2, j, k⟩ := k
    refine ⟨max n j + 1, ?_⟩
    show Hd (stL (run G (max n j)) d tg [] el ow s i D sl h) Q E
    unfold stL
    rw [e]
    dsimp only
    rw [eb]
    show Hd ((calm ((run G (max n j)).e d el sl1 h)).bind _) Q E
    rw [(mE.up k0 (Nat.le_max_left n j)).2, e0]
    show Hd (match h1[D]? with
      | some (.lst acc) => (match decide (acc.length < sizeLine) with
        | true => (run G (max n j)).l d tg [] el ow s (i + 1) D sl (h1.set D (Ob.lst (acc ++ [y])))
        | false => .bad)
      | _ => .bad) Q E
    rw [e1]
    dsimp only
    rw [decide_eq_true e2]
    exact (mLc.up k (Nat.le_max_right n j)).1
/-- a comprehension with or without a condition, one turn -/
theorem xl_goX {v : Val} {sl1 : LS} (e : item s i h = some (some v)) (eb : bindT tg v sl = some sl1)
    (k : match ifs with
      | [] => XE G d el sl1 h (fun y h1 => ∃ acc, h1[D]? = some (.lst acc) ∧ acc.length < sizeLine ∧ XLc G d tg ifs el ow s (i + 1) D sl (h1.set D (.lst (acc ++ [y]))) Q E) noX
      | [c] => XT G d c sl1 h (fun t h1 => match t with
        | true => XE G d el sl1 h1 (fun y h2 => ∃ acc, h2[D]? = some (.lst acc) ∧ acc.length < sizeLine ∧ XLc G d tg ifs el ow s (i + 1) D sl (h2.set D (.lst (acc ++ [y]))) Q E) noX
        | false => XLc G d tg ifs el ow s (i + 1) D sl h1 Q E) noX
      | _ => False) : XLc G d tg ifs el ow s i D sl h Q E := by
  match ifs, k with
  | [], k => exact xl_turn (fun _ _ => True) e eb k
  | [c], k =>
    obtain ⟨n, k⟩ := k
    cases e0 : (run G n).t d c sl1 h with
    | bad => rw [e0] at k; exact k.elim
    | exc _ _ _ => rw [e0] at k; exact k.elim
    | ok t h1 =>
      have k0 := k
      rw [e0] at k
      cases t with
      | false =>
        obtain ⟨j, k⟩ := k
        refine ⟨max n j + 1, ?_⟩
        show Hd (stL (run G (max n j)) d tg [c] el ow s i D sl h) Q E
        unfold stL
        rw [e]
        dsimp only
        rw [eb]
        show Hd ((calm ((run G (max n j)).t d c sl1 h)).bind _) Q E
        rw [(mT.up k0 (Nat.le_max_left n j)).2, e0]
        exact (mLc.up k (Nat.le_max_right n j)).1
      | true =>
        obtain ⟨m, k⟩ := k
        cases e3 : (run G m).e d el sl1 h1 with
        | bad => rw [e3] at k; exact k.elim
        | exc _ _ _ => rw [e3] at k; exact k.elim
        | ok y h2 =>
          have k1 := k
          rw [e3] at k
          obtain ⟨acc, e1, e2, j, k⟩ := k
          refine ⟨max n (max m j) + 1, ?_⟩
          show Hd (stL (run G (max n (max m j))) d tg [c] el ow s i D sl h) Q E
          unfold stL
          rw [e]
          dsimp only
          rw [eb]
          show Hd ((calm ((run G (max n (max m j))).t d c sl1 h)).bind _) Q E
          rw [(mT.up k0 (Nat.le_max_left n _)).2, e0]
          show Hd ((calm ((run G (max n (max m j))).e d el sl1 h1)).bind _) Q E
          rw [(mE.up k1 (show m ≤ max n (max m j) by omega)).2, e3]
          show Hd (match h2[D]? with
            | some (.lst acc) => (match decide (acc.length < sizeLine) with
              | true => (run G (max n (max m j))).l d tg [c] el ow s (i + 1) D sl (h2.set D (Ob.lst (acc ++ [y])))
              | false => .bad)
            | _ => .bad) Q E
          rw [e1]
          dsimp only
          rw [decide_eq_true e2]
          exact (mLc.up k (show j ≤ max n (max m j) by omega)).1
  | _ :: _ :: _, k => exact k.elim
/-- a comprehension by an invariant over the turn, the list so far, the heap -/
theorem xl_inv (N : Nat) (I : Nat → LH → Prop) (h0 : I 0 h)
    (hs : ∀ i h, i < N → I i h → ∃ v sl1, item s i h = some (some v) ∧ bindT tg v sl = some sl1 ∧ (match ifs with
      | [] => (w G d el).1 sl1 h (fun y h1 => ∃ acc, h1[D]? = some (.lst acc) ∧ acc.length < sizeLine ∧ I (i + 1) (h1.set D (.lst (acc ++ [y])))) noX
      | [c] => (w G d c).2 sl1 h (fun t h1 => match t with
        | true => (w G d el).1 sl1 h1 (fun y h2 => ∃ acc, h2[D]? = some (.lst acc) ∧ acc.length < sizeLine ∧ I (i + 1) (h2.set D (.lst (acc ++ [y])))) noX
        | false => I (i + 1) h1) noX
      | _ => False))
    (he : ∀ h, I N h → item s N h = some none ∧ Q (.loc D) h) : XLc G d tg ifs el ow s 0 D sl h Q E := by
  have go : ∀ (j i : Nat) (h : LH), i + j = N → I i h → XLc G d tg ifs el ow s i D sl h Q E := by
    intro j
    induction j with
    | zero =>
      intro i h e k
      obtain ⟨e1, e2⟩ := he h (by rw [← e]; exact k)
      exact xl_stop (by rw [show i = N by omega]; exact e1) e2
    | succ j ih =>
      intro i h e k
      obtain ⟨v, sl1, e1, e2, e3⟩ := hs i h (by omega) k
      refine xl_goX e1 e2 ?_
      match ifs, e3, ih with
      | [], e3, ih => exact ((ok_w el).1 sl1 h _ _ e3).mono (fun y h1 z => by
          obtain ⟨acc, z1, z2, z3⟩ := z
          exact ⟨acc, z1, z2, ih (i + 1) _ (by omega) z3⟩) fun _ _ _ z => z
      | [c], e3, ih =>
        refine ((ok_w c).2 sl1 h _ _ e3).mono (fun t h1 z => ?_) fun _ _ _ z => z
        cases t with
        | false => exact ih (i + 1) _ (by omega) z
        | true => exact ((ok_w el).1 sl1 h1 _ _ z).mono (fun y h1 z => by
          obtain ⟨acc, z1, z2, z3⟩ := z
          exact ⟨acc, z1, z2, ih (i + 1) _ (by omega) z3⟩) fun _ _ _ z => z
      | _ :: _ :: _, e3, ih => exact e3.elim
  exact go N 0 h (by omega) h0
end
/-! ### calls -/
theorem xc {k : Nat} {D : DefI} {vs : List Val} {Q : Val → LH → Prop} {E : EP} (e : G.defs[k]? = some D) (hp : vs.length = D.ps) (z : wS G d D.body (vs.map some ++ List.replicate (D.n - vs.length) none) h fun x => match x with
    | .rt v h1 => Q v h1
    | .nx _ h1 => Q .non h1
    | .exc c v _ h1 => E c v h1
    | _ => False) : XC G d k vs h Q E := by
  obtain ⟨n, z⟩ := ok_s _ _ _ _ z
  refine ⟨n + 1, ?_⟩
  show Hd (stC G (run G n) d k vs h) Q E
  unfold stC
  rw [e]
  dsimp only
  rw [decide_eq_true hp]
  dsimp only
  cases e1 : (run G n).s d D.body (vs.map some ++ List.replicate (D.n - vs.length) none) h with
  | bad => rw [e1] at z; exact z.elim
  | bk _ _ => rw [e1] at z; exact z.elim
  | ct _ _ => rw [e1] at z; exact z.elim
  | rt v h1 => rw [e1] at z; exact z
  | nx sl h1 => rw [e1] at z; exact z
  | exc c v sl h1 => rw [e1] at z; exact z
theorem xc_of {k : Nat} {vs : List Val} {v : Val} {h1 : LH} {E : EP} {n d0 : Nat} (e : (run G n).c d0 k vs h = .ok v h1) (hd : d0 ≤ d) {Q : Val → LH → Prop} (q : Q v h1) : XC G d k vs h Q E := ⟨n, by rw [more e (Nat.le_refl n) hd]; exact q⟩
theorem XC.get {k : Nat} {vs : List Val} {Q : Val → LH → Prop} (x : XC G d k vs h Q noX) : ∃ n v h1, (run G n).c d k vs h = .ok v h1 ∧ Q v h1 := by
  obtain ⟨n, x⟩ := x
  cases e : (run G n).c d k vs h with
  | bad => rw [e] at x; exact x.elim
  | exc _ _ _ => rw [e] at x; exact x.elim
  | ok v h1 => rw [e] at x; exact ⟨n, v, h1, e, x⟩
end
end Mi

set_option Elab.async false
set_option linter.all false
set_option maxRecDepth 100000
set_option maxHeartbeats 1000000
/-! HX: a def's promise by its runs at any fuel. -/
namespace Mi
open PySem L2 PyProof.Rows
theorem fnG_ex {P : Program} {w : World} {K : PySem.W.Frag} {mg : Str → Option Value} {base : Heap} {CX : CXT} {k d j : Nat} {f : Addr} {fd : FuncData} {ps : List Str} {G : Prg} {ca : CaT}
    (fo : ∀ n, FnG P w K mg base CX k f fd ps (spC K ca ((run G (n + 1)).c d j))) : FnG P w K mg base CX k f fd ps (fun vs H Q E => ∃ n, spC K ca ((run G n).c d j) vs H Q E) := by
  refine ⟨fun vs H Q E z => ?_, fun A outer s H args us vs Q E a b c d' e z => ?_⟩
  · obtain ⟨n, z⟩ := z
    cases n with
    | zero => obtain ⟨_, _, _, _, _, q⟩ := z; exact (show False from q).elim
    | succ n => exact (fo n).len vs H Q E z
  · obtain ⟨n, z⟩ := z
    cases n with
    | zero => obtain ⟨_, _, _, _, _, q⟩ := z; exact (show False from q).elim
    | succ n => exact (fo n).run A outer s H args us vs Q E a b c d' e z
end Mi

set_option Elab.async false
set_option linter.all false
set_option maxRecDepth 100000
set_option maxHeartbeats 2000000
/-! H5: a law's head and end, by tables. -/
namespace Mi
open PySem L2 PyProof.Rows LamX
/-! ### the written part, without the tables of code objects -/
def isTab (o : Obj) : Bool := match o with
  | ⟨.none, _, .fields _, _⟩ => true
  | _ => false
def noTab (g : Addr → Option Obj) (a : Addr) : Option Obj := match g a with
  | some o => (match isTab o with
    | true => none
    | false => some o)
  | none => none
theorem noTab_at {g : Addr → Option Obj} {a : Addr} {o : Obj} (h : noTab g a = some o) : g a = some o := by
  unfold noTab at h
  split at h
  · rename_i o' e
    split at h
    · cases h
    · cases h
      exact e
  · cases h
theorem noTab_in {as : List Addr} {h : Heap} : (He.frG (noTab h.get?) as).In h := fun a o e => noTab_at (He.frG_at as e)
/-! ### a def's text -/
structure TxD where
  at_ : Str × Option Str
  prop : Bool := false
  qual : Str
  st : Stmt
  ps : List Str
  N : List Str
  body : List IS
  dfl : List Val := []
  stat : Bool := false
def dvOf : Val → He.Dv
  | .bl b => .bl b
  | .int i => .int i
  | .str x => .str x
  | _ => .non
def TxD.name (t : TxD) : Str := match t.at_.2 with
  | none => t.at_.1
  | some m => m
def TxD.d (t : TxD) : He.DefD := ⟨t.at_, t.name, t.qual, defArgs t.st, defBody t.st, defScope t.st, t.dfl.map dvOf, []⟩
def TxD.p (t : TxD) : PrD := ⟨t.at_.1, t.name, t.name, t.qual, defArgs t.st, defBody t.st, defScope t.st, t.stat⟩
def TxD.i (t : TxD) : DefI := ⟨t.ps.length, t.N.length, t.body, t.dfl⟩
def plainD : Val → Bool
  | .non => true
  | .bl _ => true
  | .int _ => true
  | .str _ => true
  | _ => false
structure TxD.Ok (g : Glo) (lams : List Str) (t : TxD) : Prop where
  sc : FnScope t.N t.ps (defScope t.st)
  body : trS g t.N 60 (defScope t.st) (defBody t.st) = some t.body
  dfl : t.dfl.all plainD = true
  b0 : t.dfl = [] → ∀ (kV doc pm : Value) (an : Option Addr) (cdv ct : Value) (us : List Value), us.length = t.ps.length → bindArgs (PySem.W.fnOf t.name t.qual (defArgs t.st) (defBody t.st) (defScope t.st) .none kV doc pm an cdv ct) ⟨us, []⟩ = pure (t.ps.zip us)
  b1 : t.dfl ≠ [] → t.dfl.length ≤ t.ps.length ∧ ∀ j, j ≤ t.dfl.length → ∀ (T : Addr) (kV doc pm : Value) (an : Option Addr) (cdv ct : Value) (us its : List Value), us.length = t.ps.length - (t.dfl.length - j) → its.length = t.dfl.length →
    ∃ k, bindArgs (PySem.W.fnOf t.name t.qual (defArgs t.st) (defBody t.st) (defScope t.st) (.ref T) kV doc pm an cdv ct) ⟨us, []⟩ = seqItems? (.ref T) >>= k ∧ k (some its.toArray) = pure (t.ps.zip (us ++ its.drop j))
  lm : tabS g (defScope t.st) = true → t.at_.2 = none ∧ t.qual = t.at_.1 ∧ t.at_.1 ∈ lams
/-! ### the head's table -/
structure HdT where
  P : Program
  names : List Str
  g : Glo
  txs : List (Option TxD)
  x0 : Str
  errs : List Str
  tI : List (ClR × List (ClR × Bool))
  iI : FnI
  cI : List (Str × ClsI)
  lams : List Str
  told : Option (He.DefD × Str)
def faV (x : Str) : GV → He.Fa
  | .blt => .free x
  | .val (.int i) => .int x i
  | .val (.str z) => .str x z
  | .st c _ _ => .glo c
  | _ => .glo x
def faG (g : Glo) : List He.Fa := g.map fun p => faV p.1 p.2
def faC (cI : List (Str × ClsI)) : List He.Fa := cI.flatMap fun p => .mkr p.1 :: p.2.meths.map fun q => .meth p.1 q.1
def faT (T : HdT) : List He.Fa := match T.told with
  | some (_, E) => .glo E :: T.errs.map fun c => .exm c E true
  | none => []
def HdT.fa (T : HdT) : List He.Fa := faG T.g ++ (faC T.cI ++ faT T)
/-- the texts -/
def HdT.tx (T : HdT) : List TxD := T.txs.filterMap id
theorem mem_tx {T : HdT} {k : Nat} {t : TxD} (h : T.txs[k]? = some (some t)) : t ∈ T.tx := List.mem_filterMap.mpr ⟨some t, List.mem_of_getElem? h, rfl⟩
def iOf : Option TxD → DefI
  | some t => t.i
  | none => ⟨0, 0, [.nev], []⟩
def HdT.fn (T : HdT) : List He.DefD := (T.tx.filter fun t => !t.prop).map TxD.d ++ (match T.told with
  | some (d, _) => [d]
  | none => [])
def HdT.pr (T : HdT) : List PrD := (T.tx.filter fun t => t.prop).map TxD.p
def HdT.G (T : HdT) : Prg := ⟨T.txs.map iOf, T.cI, T.tI, T.errs⟩
def tabsB (K : PySem.W.Frag) (lams : List Str) : Bool := (lams.all fun y => decide (PySem.W.tabIn K y = some (tabA K y)) && (K.lookup (tabA K y).2).isNone) && decide ((lams.map fun y => (tabA K y).2).Nodup)
abbrev AlT : Type := AlN × Bool
def obsK (T : HdT) (K : PySem.W.Frag) : AlT :=
  (((He.obsD T.fa T.fn K, clsAll T.P K T.x0 T.errs T.tI, initO K T.x0), ((T.cI.all fun p => slcB K p.1 p.2) && T.pr.all fun d => d.ok K), T.pr.map fun d => prW K d), tabsB K T.lams)
def obsT (T : HdT) (g : Addr → Option Obj) : AlT := obsK T (He.frG (noTab g) (asP g T.names))
def SaysT (T : HdT) (K : PySem.W.Frag) : Prop := SaysN T.P T.fa T.fn T.x0 T.errs T.tI T.iI T.cI T.pr K ∧ tabsB K T.lams = true
def hookT (T : HdT) : PySem.W.Hook where
  α := AlT
  obs := fun s => obsT T s.heap.get?
  val := fun _ => (((He.valD T.fn, true, T.iI), true, T.pr.map PrD.val), true)
  says := fun _ h => ∃ K : PySem.W.Frag, K.In h ∧ SaysT T K
  of := fun _ _ e => ⟨_, noTab_in, ⟨congrArg (fun z : AlT => z.1.1.1) e, congrArg (fun z : AlT => z.1.1.2.1) e, congrArg (fun z : AlT => z.1.1.2.2) e, congrArg (fun z : AlT => z.1.2.1) e, congrArg (fun z : AlT => z.1.2.2) e⟩, congrArg (fun z : AlT => z.2) e⟩
  keeps := fun _ _ _ ⟨K, hK, c⟩ k => ⟨K, PySem.W.Frag.In.keeps hK k, c⟩
theorem obsT_eq {T : HdT} {g : Addr → Option Obj} {s : Shared} (h : ∀ a, g a = s.heap.get? a) : obsT T g = (hookT T).obs s := by
  have e : g = s.heap.get? := funext h
  rw [e] <;> rfl
/-- where the lambdas' makers stand -/
def LT (T : HdT) (K : PySem.W.Frag) : Addr → Str → Prop := fun c q => q ∈ T.lams ∧ c = (tabA K q).1
def caT (T : HdT) (K : PySem.W.Frag) : CaT := ⟨He.ga K, T.lams.map fun y => ((tabA K y).2, y ++ ".<locals>." ++ "<lambda>"), dnOf T.cI⟩
section
variable {T : HdT} {K : PySem.W.Frag} {h : Heap} {mg : Str → Option Value}
theorem SaysT.fact (c : SaysT T K) {f : He.Fa} (hf : f ∈ T.fa) : f.ok K = true := by
  obtain ⟨i, hi, e⟩ := List.getElem_of_mem hf
  exact c.1.1.fact i (f := f) (by rw [List.getElem?_eq_getElem hi, e])
theorem SaysT.defd (c : SaysT T K) {d : He.DefD} (hd : d ∈ T.fn) : ∃ fd, FunD K d.name d.qual d.params d.body d.scope (d.dvs K) (d.kws K) (He.fAd K d.at_) fd := by
  obtain ⟨i, hi, e⟩ := List.getElem_of_mem hd
  exact c.1.1.def_ i (d := d) (by rw [List.getElem?_eq_getElem hi, e])
theorem mem_faG {g : Glo} {x : Str} {v : GV} (e : g.lookup x = some v) : faV x v ∈ faG g := List.mem_map.mpr ⟨(x, v), PySem.mem_of_lookup e, rfl⟩
theorem SaysT.g (c : SaysT T K) {x : Str} {v : GV} (e : T.g.lookup x = some v) : (faV x v).ok K = true := c.fact (List.mem_append_left _ (mem_faG e))
def glB (g : Glo) : Bool := g.all fun p => match p.2 with
  | .val (.int _) => true
  | .val (.str _) => true
  | .val _ => false
  | _ => true
theorem gok_T (hb : glB T.g = true) (X : K.In h) (N : h.Ns mainGlobals mg) (c : SaysT T K) : GOk T.g K mg := by
  refine ⟨fun x v e => ?_, fun x e => He.free_ok X N (c.g e)⟩
  have z := List.all_eq_true.mp hb _ (PySem.mem_of_lookup e)
  have q := c.g e
  cases v with
  | int i =>
    obtain ⟨t, et⟩ := He.int_ok X N q
    exact ⟨.int i, _, et, ⟨t, rfl⟩, fun _ _ => .int i⟩
  | str y =>
    obtain ⟨t, et⟩ := He.str_ok X N q
    exact ⟨.str y, _, et, ⟨t, rfl⟩, fun _ _ => .str y⟩
  | _ => cases z
theorem dfl_rvs {ia : List Addr} {H : Hp} : ∀ {l : List Val}, l.all plainD = true → RVs K ia H l ((l.map dvOf).map (He.Dv.v K))
  | [], _ => .nil
  | v :: l, h => by
    obtain ⟨h1, h2⟩ := Bool.and_eq_true_iff.mp h
    refine .cons ?_ (dfl_rvs h2)
    cases v with
    | non => exact .non
    | bl b => exact .bl b
    | int i => exact .int i
    | str x => exact .str x
    | _ => cases h1
theorem all_drop {l : List Val} {j : Nat} (h : l.all plainD = true) : (l.drop j).all plainD = true := by
  rw [List.all_eq_true] at h ⊢
  exact fun x hx => h x (List.mem_of_mem_drop hx)
theorem TxD.Ok.dflK {t : TxD} {f : Addr} {fd : FuncData} (o : t.Ok T.g T.lams) (F : FunD K t.name t.qual (defArgs t.st) (defBody t.st) (defScope t.st) ((t.dfl.map dvOf).map (He.Dv.v K)) [] f fd) : DflK K fd t.ps t.dfl := by
  intro j
  by_cases h0 : t.dfl = []
  · rw [h0] at F ⊢
    have b := FunD.bindsN (ps := t.ps) F (o.b0 h0)
    exact ⟨[], [], b, .nil, fun ia H => by rw [List.drop_nil]; exact .nil⟩
  · obtain ⟨hle, b1⟩ := o.b1 h0
    have hne : ((t.dfl.map dvOf).map (He.Dv.v K)) ≠ [] := by
      cases e : t.dfl with
      | nil => exact absurd e h0
      | cons _ _ => simp
    by_cases hj : j ≤ t.dfl.length
    · obtain ⟨ds, hv, hb⟩ := FunD.binds1 (ps := t.ps) F (t.ps.length - (t.dfl.length - j)) j hne (by simp; omega) (fun T0 kV doc pm an cdv ct us its h1 h2 => b1 j hj T0 kV doc pm an cdv ct us its h1 (by simpa using h2))
      refine ⟨ds, _, hb, hv, fun ia H => ?_⟩
      rw [List.map_map, ← List.map_drop, ← List.map_map]
      exact dfl_rvs (all_drop o.dfl)
    · obtain ⟨ds, hv, hb⟩ := FunD.binds1 (ps := t.ps) F (t.ps.length - (t.dfl.length - t.dfl.length)) t.dfl.length hne (by simp) (fun T0 kV doc pm an cdv ct us its h1 h2 => b1 t.dfl.length (Nat.le_refl _) T0 kV doc pm an cdv ct us its h1 (by simpa using h2))
      rw [List.drop_eq_nil_of_le (by simp)] at hv
      cases hv
      exact ⟨[], [], hb, .nil, fun ia H => by rw [List.drop_eq_nil_of_le (by omega)]; exact .nil⟩
theorem SaysT.tx (c : SaysT T K) {t : TxD} (ht : t ∈ T.tx) (hp : t.prop = false) : ∃ fd, FunD K t.name t.qual (defArgs t.st) (defBody t.st) (defScope t.st) ((t.dfl.map dvOf).map (He.Dv.v K)) [] (He.fAd K t.at_) fd :=
  c.defd (d := t.d) (List.mem_append_left _ (List.mem_map.mpr ⟨t, List.mem_filter.mpr ⟨ht, by rw [hp]; rfl⟩, rfl⟩))
theorem SaysT.txp (c : SaysT T K) {t : TxD} (ht : t ∈ T.tx) (hp : t.prop = true) : (t.stat = false → PropK K (He.ga K t.at_.1) t.name (prA K t.at_.1 t.name)) ∧ (t.stat = true → StK K (He.ga K t.at_.1) t.name (prA K t.at_.1 t.name)) ∧ ∃ fd, FunD K t.name t.qual (defArgs t.st) (defBody t.st) (defScope t.st) [] [] (prA K t.at_.1 t.name) fd :=
  c.1.pr (d := t.p) (List.mem_map.mpr ⟨t, List.mem_filter.mpr ⟨ht, hp⟩, rfl⟩)
theorem SaysT.tab (c : SaysT T K) {y : Str} (hy : y ∈ T.lams) : PySem.W.tabIn K y = some (tabA K y) ∧ K.lookup (tabA K y).2 = none := by
  have z := List.all_eq_true.mp (Bool.and_eq_true_iff.mp c.2).1 y hy
  simp only [Bool.and_eq_true, decide_eq_true_eq, Option.isNone_iff_eq_none] at z
  exact z
theorem code_at {x : Str} {c P : Addr} {oc : Value} {od : Option Addr} {fd : FuncData} {osl : Array (Option Value)} (ht : PySem.W.tabIn K x = some (c, P)) (lk : K.lookup (He.ga K x) = some ⟨oc, od, .func fd, osl⟩) : fd.code = .ref c := by
  unfold PySem.W.tabIn at ht
  unfold He.ga at lk
  split at ht
  · rename_i f hf
    rw [hf] at lk
    dsimp only at lk
    rw [lk] at ht
    dsimp only at ht
    split at ht
    · rename_i c' hc
      split at ht
      · split at ht
        · cases ht
          exact hc
        · cases ht
      · cases ht
    · cases ht
  · cases ht
theorem SaysT.defB (ok : ∀ t ∈ T.tx, t.Ok T.g T.lams) (c : SaysT T K) {k : Nat} {t : TxD} (ht : T.txs[k]? = some (some t)) (hp : t.prop = false) : ∃ fd, DefB K (LT T K) T.g T.G k t.i (He.fAd K t.at_) fd t.ps t.name t.qual t.st t.N 60 ∧ FunD K t.name t.qual (defArgs t.st) (defBody t.st) (defScope t.st) ((t.dfl.map dvOf).map (He.Dv.v K)) [] (He.fAd K t.at_) fd := by
  have hm := mem_tx ht
  obtain ⟨fd, F⟩ := c.tx hm hp
  have o := ok t hm
  refine ⟨fd, ⟨?_, ⟨_, _, F⟩, o.sc, rfl, rfl, o.body, fun z => ?_⟩, F⟩
  · show (T.txs.map iOf)[k]? = _
    rw [List.getElem?_map, ht]
    rfl
  · obtain ⟨h1, h2, h3⟩ := o.lm z
    obtain ⟨oc, od, dV, kV, doc, pm, an, cdv, ct, osl, e, lk, _⟩ := F.ex
    refine ⟨(tabA K t.at_.1).1, ?_, by rw [h2]; exact h3, by rw [h2]⟩
    have hf : He.fAd K t.at_ = He.ga K t.at_.1 := by unfold He.fAd; rw [h1]
    rw [hf] at lk
    exact code_at (P := (tabA K t.at_.1).2) (c.tab h3).1 lk
theorem SaysT.defP (ok : ∀ t ∈ T.tx, t.Ok T.g T.lams) (c : SaysT T K) {k : Nat} {t : TxD} (ht : T.txs[k]? = some (some t)) (hp : t.prop = true) (hd : t.dfl = []) (hl : tabS T.g (defScope t.st) = false) : ∃ fd, DefB K (LT T K) T.g T.G k t.i (prA K t.at_.1 t.name) fd t.ps t.name t.qual t.st t.N 60 ∧ (t.stat = false → PropK K (He.ga K t.at_.1) t.name (prA K t.at_.1 t.name)) ∧ (t.stat = true → StK K (He.ga K t.at_.1) t.name (prA K t.at_.1 t.name)) ∧ Binds K fd t.ps [] := by
  have hm := mem_tx ht
  obtain ⟨q, q2, fd, F⟩ := c.txp hm hp
  have o := ok t hm
  refine ⟨fd, ⟨?_, ⟨_, _, F⟩, o.sc, rfl, rfl, o.body, fun z => by rw [hl] at z; cases z⟩, q, q2, FunD.bindsN (ps := t.ps) F (o.b0 hd)⟩
  show (T.txs.map iOf)[k]? = _
  rw [List.getElem?_map, ht]
  rfl
/-- the names' places in the table -/
def fnB (T : HdT) : Bool := T.g.all fun p => match p.2 with
  | .fn k => (match T.txs[k]? with
    | some (some t) => decide (t.at_ = (p.1, none)) && (!t.prop && t.dfl.isEmpty)
    | _ => false)
  | .st c m k => (match T.txs[k]?, T.g.lookup c with
    | some (some t), some .cls => decide (t.at_ = (c, some m)) && (t.prop && (t.stat && (t.dfl.isEmpty && !tabS T.g (defScope t.st))))
    | _, _ => false)
  | _ => true
theorem dok_T (ok : ∀ t ∈ T.tx, t.Ok T.g T.lams) (hb : fnB T = true) (X : K.In h) (N : h.Ns mainGlobals mg) (c : SaysT T K) : DefsOk K (LT T K) mg T.g T.G := by
  refine ⟨fun x k e => ?_, fun x cn m k e => ?_⟩
  rotate_left
  · have z := List.all_eq_true.mp hb _ (PySem.mem_of_lookup e)
    dsimp only at z
    split at z
    · rename_i t ht hc
      simp only [Bool.and_eq_true, decide_eq_true_eq, Bool.not_eq_true'] at z
      obtain ⟨z1, z2, z3, z4, z5⟩ := z
      obtain ⟨fd, B, _, q, b⟩ := c.defP ok ht z2 (by simpa using z4) z5
      have hn : t.name = m := by unfold TxD.name; rw [z1]
      have hc' : t.at_.1 = cn := by rw [z1]
      have q := q z3
      rw [hc', hn] at q B
      exact ⟨He.glo_ok X N (c.g hc), _, _, fd, _, _, _, _, _, _, B, q, b⟩
    · cases z
  have z := List.all_eq_true.mp hb _ (PySem.mem_of_lookup e)
  dsimp only at z
  split at z
  · rename_i t ht
    simp only [Bool.and_eq_true, decide_eq_true_eq, Bool.not_eq_true'] at z
    obtain ⟨z1, z2, z3⟩ := z
    obtain ⟨fd, B, F⟩ := c.defB ok ht z2
    have hd : t.dfl = [] := by simpa using z3
    have hf : He.fAd K t.at_ = He.ga K x := by rw [z1]; rfl
    have o := ok t (mem_tx ht)
    rw [hd] at F
    exact ⟨_, _, fd, _, _, _, _, _, _, B, by rw [hf]; exact He.glo_ok X N (c.g e), FunD.bindsN (ps := t.ps) F (o.b0 hd)⟩
  · cases z
def clB (T : HdT) : Bool := T.cI.all fun p => (p.2.meths.all fun q => match T.txs[q.2]? with
    | some (some t) => decide (t.at_ = (p.1, some q.1)) && !t.prop
    | _ => false) && ((p.2.props.all fun q => match T.txs[q.2]? with
    | some (some t) => decide (t.at_ = (p.1, some q.1)) && (t.prop && (t.dfl.isEmpty && (!tabS T.g (defScope t.st) && !t.stat)))
    | _ => false) && (match T.txs[p.2.init]? with
    | some (some t) => decide (t.at_ = (p.1, some ("__init__" : Str))) && !t.prop
    | _ => false))
theorem cd_T (ok : ∀ t ∈ T.tx, t.Ok T.g T.lams) (hb : clB T = true) (c : SaysT T K) : ClsDefs K (LT T K) T.g T.G := by
  intro x I e
  have e : T.cI.lookup x = some I := e
  have m0 := PySem.mem_of_lookup e
  have z := List.all_eq_true.mp hb _ m0
  simp only [Bool.and_eq_true] at z
  obtain ⟨z1, z2, z3⟩ := z
  have inC : ∀ f, f ∈ (He.Fa.mkr x :: I.meths.map fun q => He.Fa.meth x q.1) → f.ok K = true := fun f hf => c.fact (List.mem_append_right _ (List.mem_append_left _ (List.mem_flatMap.mpr ⟨(x, I), m0, hf⟩)))
  refine ⟨fun m k e2 => ?_, fun a k e2 => ?_, ?_⟩
  · have m1 := PySem.mem_of_lookup e2
    have y := List.all_eq_true.mp z1 _ m1
    dsimp only at y
    split at y
    · rename_i t ht
      simp only [Bool.and_eq_true, decide_eq_true_eq, Bool.not_eq_true'] at y
      obtain ⟨fd, B, F⟩ := c.defB ok ht y.2
      have hf : He.fAd K t.at_ = He.ma K (He.ga K x) m := by rw [y.1]; rfl
      refine ⟨_, _, fd, _, _, _, _, _, _, B, ?_, (ok t (mem_tx ht)).dflK F⟩
      rw [hf]
      exact He.meth_ok (inC _ (List.mem_cons_of_mem _ (List.mem_map.mpr ⟨(m, k), m1, rfl⟩)))
    · cases y
  · have m1 := PySem.mem_of_lookup e2
    have y := List.all_eq_true.mp z2 _ m1
    dsimp only at y
    split at y
    · rename_i t ht
      simp only [Bool.and_eq_true, decide_eq_true_eq, Bool.not_eq_true'] at y
      obtain ⟨y1, y2, y3, y4, y5⟩ := y
      obtain ⟨fd, B, q, _, b⟩ := c.defP ok ht y2 (by simpa using y3) y4
      have q := q y5
      have hn : t.name = a := by unfold TxD.name; rw [y1]
      have hc : t.at_.1 = x := by rw [y1]
      rw [hc, hn] at q B
      exact ⟨_, _, fd, _, _, _, _, _, _, B, q, b⟩
    · cases y
  · split at z3
    · rename_i t ht
      simp only [Bool.and_eq_true, decide_eq_true_eq, Bool.not_eq_true'] at z3
      obtain ⟨fd, B, F⟩ := c.defB ok ht z3.2
      have hf : He.fAd K t.at_ = He.ma K (He.ga K x) "__init__" := by rw [z3.1]; rfl
      refine ⟨_, _, fd, _, _, _, _, _, _, B, ?_, (ok t (mem_tx ht)).dflK F⟩
      rw [hf]
      exact He.mkr_ok (inC _ (List.mem_cons_self ..))
    · cases z3
/-- what is asked of told -/
structure ToldT (T : HdT) (d : He.DefD) (E : Str) : Prop where
  ex : ∃ (a cn bn en : Str), d.at_ = (("_law_told" : Str), none) ∧ d.name = "_law_told" ∧ d.qual = "_law_told" ∧ d.dfl = [] ∧ d.kwd = [] ∧ FnScope [a, cn, bn, en] [a] d.scope ∧ (∀ y ∈ [a, cn, bn, en], d.scope.names.lookup y = some .local ∧ okN y = true) ∧ d.scope.names.lookup E = some .globalImplicit ∧ okN E = true ∧ ToldB d.body a cn bn en E ∧
    (∀ (kV doc pm : Value) (an : Option Addr) (cdv ct : Value) (us : List Value), us.length = [a].length → bindArgs (PySem.W.fnOf "_law_told" "_law_told" d.params d.body d.scope .none kV doc pm an cdv ct) ⟨us, []⟩ = pure ([a].zip us))
theorem told_T {d : He.DefD} {E : Str} (hT : T.told = some (d, E)) (ht : ToldT T d E) (X : K.In h) (N : h.Ns mainGlobals mg) (c : SaysT T K) (hg : (He.Fa.glo "_law_told").ok K = true) : TldK K mg "_law_told" T.errs := by
  obtain ⟨a, cn, bn, en, h1, h2, h3, h4, h5, h6, h7, h8, h9, h10, h11⟩ := ht.ex
  obtain ⟨fd, F⟩ := c.defd (d := d) (by
    unfold HdT.fn
    rw [hT]
    exact List.mem_append_right _ (List.mem_cons_self ..))
  have fac : ∀ f, f ∈ faT T → f.ok K = true := fun f hf => c.fact (List.mem_append_right _ (List.mem_append_right _ hf))
  have fe : faT T = .glo E :: T.errs.map fun c => .exm c E true := by unfold faT; rw [hT]
  rw [fe] at fac
  have hF : FunD K "_law_told" "_law_told" d.params d.body d.scope [] [] (He.ga K "_law_told") fd := by
    have e1 : d.dvs K = [] := by unfold He.DefD.dvs; rw [h4]; rfl
    have e2 : d.kws K = [] := by unfold He.DefD.kws; rw [h5]; rfl
    have e3 : He.fAd K d.at_ = He.ga K "_law_told" := by rw [h1]; rfl
    rw [h2, h3, e1, e2, e3] at F
    exact F
  refine ⟨He.ga K "_law_told", He.ga K E, fd, d.params, d.body, d.scope, a, cn, bn, en, E, He.glo_ok X N hg, hF, FunD.bindsN (ps := [a]) hF h11, h6, h7, h8, h9, He.glo_ok X N (fac _ (List.mem_cons_self ..)), h10, fun x hx => ?_⟩
  exact He.exm_ok (fac _ (List.mem_cons_of_mem _ (List.mem_map.mpr ⟨x, by simpa using hx, rfl⟩)))
def erB (T : HdT) : Bool := T.g.all fun p => match p.2 with
  | .err => T.errs.contains p.1
  | .cls => (T.cI.lookup p.1).isSome
  | .tld _ => decide (p.1 = ("_law_told" : Str)) && T.told.isSome
  | _ => true
theorem cok_T (ti : InitT T.iI) (tt : ∀ d E, T.told = some (d, E) → ToldT T d E) (hb : erB T = true) (X : K.In h) (N : h.Ns mainGlobals mg) (c : SaysT T K) : COk T.P K mg T.g T.G := by
  have zz : ∀ {x : Str} {v : GV}, T.g.lookup x = some v → (match v with
    | .err => T.errs.contains x
    | .cls => (T.cI.lookup x).isSome
    | .tld _ => decide (x = ("_law_told" : Str)) && T.told.isSome
    | _ => true) = true := fun {x v} e => List.all_eq_true.mp hb _ (PySem.mem_of_lookup e)
  refine cok_of (G := T.G) X N ti c.1.2.2.1 c.1.2.1 (fun x e => ⟨zz e, c.g e⟩) (fun x I e => (c.1.cl e).1) (fun x I e => (c.1.cl e).2) (fun x scs e => ?_) (fun x e => ⟨c.g e, Option.isSome_iff_exists.mp (zz e)⟩)
  have z := zz e
  simp only [Bool.and_eq_true, decide_eq_true_eq] at z
  obtain ⟨z1, z2⟩ := z
  subst z1
  obtain ⟨p, hp⟩ := Option.isSome_iff_exists.mp z2
  exact told_T hp (tt p.1 p.2 hp) X N c (c.g e)
theorem tabs_T (c : SaysT T K) {base : Heap} (tb : ∀ y ∈ T.lams, TabB base mg (tabA K y).1 (tabA K y).2) : TabsOk mg base (caT T K) (LT T K) := by
  intro a q ⟨h1, h2⟩
  refine ⟨(tabA K q).2, by rw [h2]; exact tb q h1, List.mem_map.mpr ⟨q, h1, rfl⟩, fun p hp e => ?_⟩
  obtain ⟨y, hy, e2⟩ := List.mem_map.mp hp
  have nd := of_decide_eq_true (Bool.and_eq_true_iff.mp c.2).2
  rw [← e2] at e ⊢
  have : y = q := by
    clear tb h2 hp e2
    generalize hf : (fun y => (tabA K y).2) = f at nd
    have e : f y = f q := by rw [← hf]; exact e
    clear hf
    generalize T.lams = l at nd h1 hy
    induction l with
    | nil => cases hy
    | cons z l ih =>
      rw [List.map_cons, List.nodup_cons] at nd
      rcases List.mem_cons.mp h1 with r1 | r1
      · rcases List.mem_cons.mp hy with r2 | r2
        · rw [r1, r2]
        · exact absurd (List.mem_map.mpr ⟨y, r2, by rw [e, r1]⟩) nd.1
      · rcases List.mem_cons.mp hy with r2 | r2
        · exact absurd (List.mem_map.mpr ⟨q, r1, by rw [← e, r2]⟩) nd.1
        · exact ih nd.2 r1 r2
  rw [this]
end
theorem rvs_ints {K : PySem.W.Frag} {ia : List Addr} {H : Hp} : ∀ ns : List Int, RVs K ia H (ns.map Val.int) (ns.map V.int)
  | [] => .nil
  | n :: ns => .cons (.int n) (rvs_ints ns)
/-- a law's end -/
theorem walk_T {l : PySem.W.OpenLaw} {q : Program} {loose : List Str} {XP : (Str → Option Value) → Heap → Prop} {d : DefRec} {T : HdT} {D kl : Nat} {x : Str} {tl : TxD}
    (hn : l.most = some 63) (hdf : d.params.defaults = []) (hr : Room (D + 1) callerA) (hrec : ∀ y ∈ T.lams, ∃ r, (recsOf q).find? (fun e => e.name == y) = some r) (hname : d.name = ("law" : Str)) (hP : l.prog = T.P)
    (ok : ∀ t ∈ T.tx, t.Ok T.g T.lams) (b1 : glB T.g = true) (b2 : fnB T = true) (b3 : clB T = true) (b4 : erB T = true) (ti : InitT T.iI) (tt : ∀ d E, T.told = some (d, E) → ToldT T d E)
    (hl : T.txs[kl]? = some (some tl)) (hl2 : tl.at_ = (("law" : Str), none)) (hl3 : tl.ps = [x]) (hl4 : tl.dfl = []) (hl5 : tl.prop = false) (hl6 : T.g.lookup ("law" : Str) = some (.fn kl))
    (hA : ∀ (kV doc pm : Value) (an : Option Addr) (cdv ct : Value) (us : List Value), us.length = [x].length → bindArgs (PySem.W.fnOf tl.name tl.qual (defArgs tl.st) (defBody tl.st) (defScope tl.st) .none kV doc pm an cdv ct) ⟨us, []⟩ = pure ([x].zip us))
    (pure_law : ∀ ns : List Int, ns.length ≤ 63 → XC T.G D kl [.cl (ns.map .int)] [] (fun v _ => v = .bl true) fun _ _ _ => False) :
    PySem.W.WalkO q loose XP (fun _ h => ∃ K : PySem.W.Frag, K.In h ∧ SaysT T K) l.row.toRowW d [] (fun f vs => PySem.call f vs) := by
  refine walk_ofGT (n := 63) (k := D + 1) (x := x) (CX := fun w => L2.CX T.P w) T.lams hn (by decide) hdf hr hrec ?_ (fun w H s e s' z => ?_)
  case refine_2 =>
    obtain ⟨_, _, _, _, _, _, _, _, _, _, _, _, z⟩ := z
    exact z
  intro w mg fa h ⟨K, KX, c⟩ G0 hmg0
  rw [hname] at hmg0
  obtain ⟨fd, B, F⟩ := c.defB ok hl hl5
  have hf : He.fAd K tl.at_ = He.ga K "law" := by rw [hl2]; rfl
  rw [hf] at B F
  have e0 := hmg0.symm.trans (He.glo_ok KX G0 (c.g hl6))
  cases e0
  rw [hl4] at F
  have b := L2.FunD.bindsA (ps := [x]) F hA
  refine ⟨K, fd, fun vs H Q E => ∃ n, spC K (caT T K) ((run T.G n).c D kl) vs H Q E, KX, fun y hy => c.tab hy, fun s v => b s [v] rfl, fun H a ns hlen hH hS => ?_, fun base kb nb tb => ?_⟩
  · obtain ⟨n, hn⟩ := pure_law ns hlen
    refine ⟨n, [], [], [.cl (ns.map .int)], ⟨rfl, List.nodup_nil, (fun n o a e _ => by simp at e), fun p hp => ?_⟩, .cons (.cl hS (rvs_ints ns)) .nil, ?_⟩
    · obtain ⟨y, hy, e⟩ := List.mem_map.mp hp
      rw [← e]
      refine ⟨#[], hH y hy, ?_, fun pos cv z => ?_⟩
      · trivial
      · cases z
    · cases e : (run T.G n).c D kl [.cl (ns.map .int)] [] with
      | bad => rw [e] at hn; exact hn.elim
      | exc _ _ _ => rw [e] at hn; exact hn.elim
      | ok v h' =>
        rw [e] at hn
        have hv : v = .bl true := hn
        subst hv
        intro ka H' w _ _ r
        cases r
        rfl
  · have gok := gok_T b1 KX G0 c
    have cok := cok_T ti tt b4 KX G0 c
    rw [hP]
    rw [hl3] at B
    have tb' := tabs_T c tb
    exact fnG_ex fun n => def_ok tb' gok cok B ((all_ok (P := T.P) (w := w) (base := base) (ca := caT T K) tb' rfl rfl gok cok (dok_T ok b2 KX G0 c) (cd_T ok b3 c) n).2.2.1 n (Nat.le_refl _)) D
end Mi

set_option Elab.async false
set_option linter.all false
set_option maxRecDepth 100000
set_option maxHeartbeats 0
namespace Mi
open PySem L2
abbrev k_law : Nat := 0
def b_law : List IS := [IS.ret (some (IE.blt Bi.all [IE.lc (ITg.nm 1) 0 [IE.cal 15 [IE.var 0, IE.cst (Val.int 6)]] [] (IE.cal 17 [IE.cal 16 [IE.var 0, IE.var 1]]) [1]]))]
abbrev k_Part_add_d : Nat := 1
def b_Part_add_d : List IS := [IS.iff (IE.cal 23 [IE.var 1]).nt [IS.nev] [], IS.ret (some (IE.cal 24 [IE.var 0, IE.cal 19 [IE.var 1], IE.cst (Val.int 1)]))]
abbrev k_Part_eq_d : Nat := 2
def b_Part_eq_d : List IS := [IS.ret (some (IE.an [(IE.var 1).isi (ClR.own "Part"), IE.cmp CmpOp.Eq ((IE.var 0).att "own_number") ((IE.var 1).att "own_number"), IE.cmp CmpOp.Eq ((IE.var 0).att "own_under") ((IE.var 1).att "own_under")]))]
abbrev k_Part_ge_d : Nat := 3
def b_Part_ge_d : List IS := [IS.iff (IE.cal 23 [IE.var 1]).nt [IS.nev] [], IS.ret (some (IE.cmp CmpOp.GtE (IE.cal 21 [IE.var 0, IE.var 1]) (IE.cst (Val.int 0))))]
abbrev k_Part_gt_d : Nat := 4
def b_Part_gt_d : List IS := [IS.iff (IE.cal 23 [IE.var 1]).nt [IS.nev] [], IS.ret (some (IE.cmp CmpOp.Gt (IE.cal 21 [IE.var 0, IE.var 1]) (IE.cst (Val.int 0))))]
abbrev k_Part_init_d : Nat := 5
def b_Part_init_d : List IS := [IS.iff (IE.orr [(IE.cal 22 [IE.var 1]).nt, (IE.cal 22 [IE.var 2]).nt, IE.cmp CmpOp.Eq (IE.var 2) (IE.cst (Val.int 0))]) [IS.rse "BadPart" (IE.tp [IE.var 1, IE.var 2])] [], IS.asg (ITg.nm 3) (IE.cal 20 [IE.var 1, IE.var 2]), IS.asg (ITg.nm 3) ((IE.cmp CmpOp.Lt (IE.var 2) (IE.cst (Val.int 0))).ife (IE.var 3).neg (IE.var 3)), IS.sta (IE.var 0) "own_number" (IE.bin Operator.FloorDiv (IE.var 1) (IE.var 3)), IS.sta (IE.var 0) "own_under" (IE.bin Operator.FloorDiv (IE.var 2) (IE.var 3))]
abbrev k_Part_le_d : Nat := 6
def b_Part_le_d : List IS := [IS.iff (IE.cal 23 [IE.var 1]).nt [IS.nev] [], IS.ret (some (IE.cmp CmpOp.LtE (IE.cal 21 [IE.var 0, IE.var 1]) (IE.cst (Val.int 0))))]
abbrev k_Part_lt_d : Nat := 7
def b_Part_lt_d : List IS := [IS.iff (IE.cal 23 [IE.var 1]).nt [IS.nev] [], IS.ret (some (IE.cmp CmpOp.Lt (IE.cal 21 [IE.var 0, IE.var 1]) (IE.cst (Val.int 0))))]
abbrev k_Part_mul_d : Nat := 8
def b_Part_mul_d : List IS := [IS.iff (IE.cal 23 [IE.var 1]).nt [IS.nev] [], IS.ret (some (IE.cal 25 [IE.var 0, IE.cal 19 [IE.var 1]]))]
abbrev k_Part_neg_d : Nat := 9
def b_Part_neg_d : List IS := [IS.ret (some (IE.mk "Part" [((IE.var 0).att "own_number").neg, (IE.var 0).att "own_under"]))]
abbrev k_Part_radd_d : Nat := 10
def b_Part_radd_d : List IS := [IS.iff (IE.cal 23 [IE.var 1]).nt [IS.nev] [], IS.ret (some (IE.cal 24 [IE.cal 19 [IE.var 1], IE.var 0, IE.cst (Val.int 1)]))]
abbrev k_Part_repr_d : Nat := 11
def b_Part_repr_d : List IS := [IS.iff (IE.cmp CmpOp.Eq ((IE.var 0).att "own_under") (IE.cst (Val.int 1))) [IS.ret (some (IE.js [IE.cst (Val.str "Part("), ((IE.var 0).att "own_number").fmt, IE.cst (Val.str ")")]))] [], IS.ret (some (IE.js [IE.cst (Val.str "Part("), ((IE.var 0).att "own_number").fmt, IE.cst (Val.str ", "), ((IE.var 0).att "own_under").fmt, IE.cst (Val.str ")")]))]
abbrev k_Part_rmul_d : Nat := 12
def b_Part_rmul_d : List IS := [IS.iff (IE.cal 23 [IE.var 1]).nt [IS.nev] [], IS.ret (some (IE.cal 25 [IE.cal 19 [IE.var 1], IE.var 0]))]
abbrev k_Part_rsub_d : Nat := 13
def b_Part_rsub_d : List IS := [IS.iff (IE.cal 23 [IE.var 1]).nt [IS.nev] [], IS.ret (some (IE.cal 24 [IE.cal 19 [IE.var 1], IE.var 0, (IE.cst (Val.int 1)).neg]))]
abbrev k_Part_sub_d : Nat := 14
def b_Part_sub_d : List IS := [IS.iff (IE.cal 23 [IE.var 1]).nt [IS.nev] [], IS.ret (some (IE.cal 24 [IE.var 0, IE.cal 19 [IE.var 1], (IE.cst (Val.int 1)).neg]))]
abbrev k__law_cells : Nat := 15
def b__law_cells : List IS := [IS.ret (some (IE.blt Bi.max2 [IE.cst (Val.int 1), IE.blt Bi.min2 [IE.var 1, IE.blt Bi.len [IE.var 0]]]).lrg)]
abbrev k_as_part : Nat := 19
def b_as_part : List IS := [IS.ret (some (((IE.var 0).isi (ClR.own "Part")).ife (IE.var 0) (IE.mk "Part" [IE.var 0])))]
abbrev k_common : Nat := 20
def b_common : List IS := [IS.asg (ITg.tp [ITg.nm 0, ITg.nm 1]) (IE.tp [IE.blt Bi.abs [IE.var 0], IE.blt Bi.abs [IE.var 1]]), IS.whl (IE.cmp CmpOp.NotEq (IE.var 1) (IE.cst (Val.int 0))) [IS.asg (ITg.tp [ITg.nm 0, ITg.nm 1]) (IE.tp [IE.var 1, IE.bin Operator.Mod (IE.var 0) (IE.var 1)])], IS.ret (some (IE.var 0))]
abbrev k_gap : Nat := 21
def b_gap : List IS := [IS.asg (ITg.nm 2) (IE.cal 19 [IE.var 1]), IS.ret (some (IE.bin Operator.Sub (IE.bin Operator.Mult ((IE.var 0).att "own_number") ((IE.var 2).att "own_under")) (IE.bin Operator.Mult ((IE.var 2).att "own_number") ((IE.var 0).att "own_under"))))]
abbrev k_is_integer : Nat := 22
def b_is_integer : List IS := [IS.ret (some (IE.an [(IE.var 0).isi (ClR.ty "int"), ((IE.var 0).isi (ClR.ty "bool")).nt]))]
abbrev k_is_number : Nat := 23
def b_is_number : List IS := [IS.ret (some (IE.orr [IE.cal 22 [IE.var 0], (IE.var 0).isi (ClR.own "Part")]))]
abbrev k_joined : Nat := 24
def b_joined : List IS := [IS.asg (ITg.nm 3) (IE.bin Operator.Add (IE.bin Operator.Mult ((IE.var 0).att "own_number") ((IE.var 1).att "own_under")) (IE.bin Operator.Mult (IE.bin Operator.Mult (IE.var 2) ((IE.var 1).att "own_number")) ((IE.var 0).att "own_under"))), IS.ret (some (IE.mk "Part" [IE.var 3, IE.bin Operator.Mult ((IE.var 0).att "own_under") ((IE.var 1).att "own_under")]))]
abbrev k_multiplied : Nat := 25
def b_multiplied : List IS := [IS.ret (some (IE.mk "Part" [IE.bin Operator.Mult ((IE.var 0).att "own_number") ((IE.var 1).att "own_number"), IE.bin Operator.Mult ((IE.var 0).att "own_under") ((IE.var 1).att "own_under")]))]
abbrev k_Part_text : Nat := 26
def b_Part_text : List IS := [IS.iff (IE.cmp CmpOp.Eq ((IE.var 0).att "own_under") (IE.cst (Val.int 1))) [IS.ret (some (IE.blt Bi.str [(IE.var 0).att "own_number"]))] [], IS.ret (some (IE.js [((IE.var 0).att "own_number").fmt, (IE.cst (Val.str "/")).fmt, ((IE.var 0).att "own_under").fmt]))]
abbrev k_is_whole : Nat := 27
def b_is_whole : List IS := [IS.iff (IE.orr [IE.cmp CmpOp.Eq (IE.var 0) (IE.cst (Val.str "")), (IE.blt Bi.all [IE.lc (ITg.nm 1) 0 [IE.var 0] [] (IE.cmp CmpOp.In (IE.var 1) (IE.cst (Val.str "0123456789"))) [1]]).nt]) [IS.ret (some (IE.cst (Val.bl false)))] [], IS.ret (some (IE.orr [IE.cmp CmpOp.Eq (IE.var 0) (IE.cst (Val.str "0")), IE.cmp CmpOp.NotEq ((IE.var 0).ix (IE.cst (Val.int 0))) (IE.cst (Val.str "0"))]))]
abbrev k_part_in : Nat := 28
def b_part_in : List IS := [IS.asg (ITg.nm 1) (IE.mth Mt.split (IE.mth Mt.rmpre (IE.var 0) [IE.cst (Val.str "-")]) [IE.cst (Val.str "/")]), IS.iff (IE.orr [IE.cmp CmpOp.Gt (IE.blt Bi.len [IE.var 1]) (IE.cst (Val.int 2)), (IE.blt Bi.all [IE.lc (ITg.nm 4) 0 [IE.var 1] [] (IE.cal 27 [IE.var 4]) [4]]).nt, IE.an [IE.cmp CmpOp.Eq ((IE.var 1).ix (IE.cst (Val.int 1)).neg) (IE.cst (Val.str "0")), IE.cmp CmpOp.Eq (IE.blt Bi.len [IE.var 1]) (IE.cst (Val.int 2))]]) [IS.ret (some (IE.cst Val.non))] [], IS.asg (ITg.nm 2) ((IE.mth Mt.startsw (IE.var 0) [IE.cst (Val.str "-")]).ife (IE.blt Bi.int [(IE.var 1).ix (IE.cst (Val.int 0))]).neg (IE.blt Bi.int [(IE.var 1).ix (IE.cst (Val.int 0))])), IS.asg (ITg.nm 3) (IE.mk "Part" [IE.var 2, (IE.cmp CmpOp.Eq (IE.blt Bi.len [IE.var 1]) (IE.cst (Val.int 2))).ife (IE.blt Bi.int [(IE.var 1).ix (IE.cst (Val.int 1))]) (IE.cst (Val.int 1))]), IS.ret (some ((IE.cmp CmpOp.Eq ((IE.var 3).att "text") (IE.var 0)).ife (IE.var 3) (IE.cst Val.non)))]
abbrev k__law_of : Nat := 46
def b__law_of : List IS := [IS.ret (some ((IE.var 1).ix (IE.cal 18 [IE.var 0, IE.blt Bi.len [IE.var 1]])))]
abbrev k__law_pair : Nat := 49
def b__law_pair : List IS := [IS.asg (ITg.tp [ITg.nm 3, ITg.nm 4]) (IE.tp [IE.blt Bi.abs [IE.blt Bi.int [IE.var 0]], IE.blt Bi.abs [IE.blt Bi.int [IE.var 1]]]), IS.whl (IE.var 4) [IS.asg (ITg.tp [ITg.nm 3, ITg.nm 4]) (IE.tp [IE.var 4, IE.bin Operator.Mod (IE.var 3) (IE.var 4)])], IS.asg (ITg.nm 2) ((IE.cmp CmpOp.Lt (IE.var 1) (IE.cst (Val.int 0))).ife (IE.cst (Val.int 1)).neg (IE.cst (Val.int 1))), IS.ret (some (IE.tp [IE.bin Operator.FloorDiv (IE.bin Operator.Mult (IE.var 2) (IE.var 0)) (IE.var 3), IE.bin Operator.FloorDiv (IE.bin Operator.Mult (IE.var 2) (IE.var 1)) (IE.var 3)]))]
abbrev k__law_less_by : Nat := 91
def b__law_less_by : List IS := [IS.ret (some (IE.cal 92 [IE.var 0, IE.tp [((IE.var 1).ix (IE.cst (Val.int 0))).neg, (IE.var 1).ix (IE.cst (Val.int 1))]]))]
abbrev k__law_plus : Nat := 92
def b__law_plus : List IS := [IS.ret (some (IE.cal 49 [IE.bin Operator.Add (IE.bin Operator.Mult ((IE.var 0).ix (IE.cst (Val.int 0))) ((IE.var 1).ix (IE.cst (Val.int 1)))) (IE.bin Operator.Mult ((IE.var 1).ix (IE.cst (Val.int 0))) ((IE.var 0).ix (IE.cst (Val.int 1)))), IE.bin Operator.Mult ((IE.var 0).ix (IE.cst (Val.int 1))) ((IE.var 1).ix (IE.cst (Val.int 1)))]))]
abbrev k__law_times : Nat := 99
def b__law_times : List IS := [IS.ret (some (IE.cal 49 [IE.bin Operator.Mult ((IE.var 0).ix (IE.cst (Val.int 0))) ((IE.var 1).ix (IE.cst (Val.int 0))), IE.bin Operator.Mult ((IE.var 0).ix (IE.cst (Val.int 1))) ((IE.var 1).ix (IE.cst (Val.int 1)))]))]
abbrev k_Part_divided : Nat := 112
def b_Part_divided : List IS := [IS.iff (IE.orr [(IE.cal 23 [IE.var 1]).nt, IE.cmp CmpOp.Eq ((IE.cal 19 [IE.var 1]).att "own_number") (IE.cst (Val.int 0))]) [IS.rse "BadPart" (IE.var 1)] [], IS.asg (ITg.nm 2) (IE.cal 19 [IE.var 1]), IS.ret (some (IE.mk "Part" [IE.bin Operator.Mult ((IE.var 0).att "own_number") ((IE.var 2).att "own_under"), IE.bin Operator.Mult ((IE.var 0).att "own_under") ((IE.var 2).att "own_number")]))]
abbrev k__law_made : Nat := 118
def b__law_made : List IS := [IS.ret (some (IE.mk "Part" [(IE.var 0).ix (IE.cst (Val.int 0)), (IE.var 0).ix (IE.cst (Val.int 1))]))]
abbrev k_Part_number : Nat := 172
def b_Part_number : List IS := [IS.ret (some ((IE.var 0).att "own_number"))]
abbrev k_Part_under : Nat := 189
def b_Part_under : List IS := [IS.ret (some ((IE.var 0).att "own_under"))]
abbrev k_Part_of : Nat := 510
def b_Part_of : List IS := [IS.asg (ITg.nm 1) (((IE.var 0).isi (ClR.ty "str")).ife (IE.cal 28 [IE.var 0]) (IE.cst Val.non)), IS.iff (IE.cmp CmpOp.Is (IE.var 1) (IE.cst Val.non)) [IS.rse "BadText" (IE.var 0)] [], IS.ret (some (IE.var 1))]
end Mi

set_option Elab.async false
set_option linter.all false
set_option maxRecDepth 100000
set_option maxHeartbeats 0
namespace Lw
open PySem PySem.Spec PyProof.Rows L2 Mi
def top (i : Nat) : Stmt := PySem.Challenge.pw_somepoured_k03_texts_of_parts.main.body.getD i (.Pass ⟨0, 0, 0, 0⟩)
def mem (i j : Nat) : Stmt := match top i with
  | .ClassDef _ _ _ b _ _ _ _ _ _ _ => b.getD j (.Pass ⟨0, 0, 0, 0⟩)
  | _ => .Pass ⟨0, 0, 0, 0⟩
abbrev s_is_integer : Stmt := top 9
def n_is_integer : List Str := ["value"]
def p_is_integer : List Str := ["value"]
abbrev s_is_whole : Stmt := top 10
def n_is_whole : List Str := ["word", "sign"]
def p_is_whole : List Str := ["word"]
abbrev s_common : Stmt := top 11
def n_common : List Str := ["one", "other"]
def p_common : List Str := ["one", "other"]
abbrev s_is_number : Stmt := top 15
def n_is_number : List Str := ["value"]
def p_is_number : List Str := ["value"]
abbrev s_as_part : Stmt := top 16
def n_as_part : List Str := ["number"]
def p_as_part : List Str := ["number"]
abbrev s_gap : Stmt := top 17
def n_gap : List Str := ["one", "other", "beside"]
def p_gap : List Str := ["one", "other"]
abbrev s_joined : Stmt := top 18
def n_joined : List Str := ["one", "other", "sign", "above"]
def p_joined : List Str := ["one", "other", "sign"]
abbrev s_multiplied : Stmt := top 19
def n_multiplied : List Str := ["one", "other"]
def p_multiplied : List Str := ["one", "other"]
abbrev s_part_in : Stmt := top 20
def n_part_in : List Str := ["text", "words", "above", "found", "word"]
def p_part_in : List Str := ["text"]
abbrev s__law_pot : Stmt := top 22
def n__law_pot : List Str := ["_law_script", "_law_k", "_law_cell", "_law_own", "_law_small"]
def p__law_pot : List Str := ["_law_script", "_law_k"]
abbrev s__law_take : Stmt := top 23
def n__law_take : List Str := ["_law_pot_here", "_law_upto", "_law_prime", "_law_blend", "_law_digit"]
def p__law_take : List Str := ["_law_pot_here", "_law_upto"]
abbrev s__law_of : Stmt := top 24
def n__law_of : List Str := ["_law_pot_here", "_law_some"]
def p__law_of : List Str := ["_law_pot_here", "_law_some"]
abbrev s__law_cells : Stmt := top 25
def n__law_cells : List Str := ["_law_script", "_law_limit"]
def p__law_cells : List Str := ["_law_script", "_law_limit"]
abbrev s__law_odd : Stmt := top 27
def n__law_odd : List Str := ["_law_pot_here", "_law_some"]
def p__law_odd : List Str := ["_law_pot_here"]
abbrev s__law_pair : Stmt := top 28
def n__law_pair : List Str := ["_law_number", "_law_under", "_law_sign", "_law_one", "_law_other"]
def p__law_pair : List Str := ["_law_number", "_law_under"]
abbrev s__law_part_text : Stmt := top 29
def n__law_part_text : List Str := ["_law_part"]
def p__law_part_text : List Str := ["_law_part"]
abbrev s__law_made : Stmt := top 30
def n__law_made : List Str := ["_law_part"]
def p__law_made : List Str := ["_law_part"]
abbrev s__law_whole : Stmt := top 31
def n__law_whole : List Str := ["_law_word", "_law_sign"]
def p__law_whole : List Str := ["_law_word"]
abbrev s__law_fraction_in : Stmt := top 32
def n__law_fraction_in : List Str := ["_law_written", "_law_terms", "_law_numbers", "_law_sign", "_law_rest", "_law_word"]
def p__law_fraction_in : List Str := ["_law_written"]
abbrev s__law_spoilt : Stmt := top 33
def n__law_spoilt : List Str := ["_law_pot_here", "_law_text", "_law_sign", "_law_at", "_law_way"]
def p__law_spoilt : List Str := ["_law_pot_here", "_law_text"]
abbrev s__law_right : Stmt := top 34
def n__law_right : List Str := ["_law_pot_here", "_law_texts", "_law_lap", "_law_value", "_law_one", "_law_text", "_law_due", "_law_caught", "_law_part"]
def p__law_right : List Str := ["_law_pot_here"]
abbrev s_law : Stmt := top 35
def n_law : List Str := ["_law_script", "_law_place"]
def p_law : List Str := ["_law_script"]
abbrev s_Part_init_d : Stmt := mem 14 1
def n_Part_init_d : List Str := ["self", "number", "under", "by"]
def p_Part_init_d : List Str := ["self", "number", "under"]
abbrev s_Part_number : Stmt := mem 14 2
def n_Part_number : List Str := ["self"]
def p_Part_number : List Str := ["self"]
abbrev s_Part_under : Stmt := mem 14 3
def n_Part_under : List Str := ["self"]
def p_Part_under : List Str := ["self"]
abbrev s_Part_text : Stmt := mem 14 4
def n_Part_text : List Str := ["self"]
def p_Part_text : List Str := ["self"]
abbrev s_Part_of : Stmt := mem 14 5
def n_Part_of : List Str := ["text", "found"]
def p_Part_of : List Str := ["text"]
abbrev s_Part_repr_d : Stmt := mem 14 7
def n_Part_repr_d : List Str := ["self"]
def p_Part_repr_d : List Str := ["self"]
abbrev s_Part_eq_d : Stmt := mem 14 8
def n_Part_eq_d : List Str := ["self", "other"]
def p_Part_eq_d : List Str := ["self", "other"]
abbrev s_Part_lt_d : Stmt := mem 14 9
def n_Part_lt_d : List Str := ["self", "other"]
def p_Part_lt_d : List Str := ["self", "other"]
abbrev s_Part_le_d : Stmt := mem 14 10
def n_Part_le_d : List Str := ["self", "other"]
def p_Part_le_d : List Str := ["self", "other"]
abbrev s_Part_gt_d : Stmt := mem 14 11
def n_Part_gt_d : List Str := ["self", "other"]
def p_Part_gt_d : List Str := ["self", "other"]
abbrev s_Part_ge_d : Stmt := mem 14 12
def n_Part_ge_d : List Str := ["self", "other"]
def p_Part_ge_d : List Str := ["self", "other"]
abbrev s_Part_neg_d : Stmt := mem 14 13
def n_Part_neg_d : List Str := ["self"]
def p_Part_neg_d : List Str := ["self"]
abbrev s_Part_add_d : Stmt := mem 14 14
def n_Part_add_d : List Str := ["self", "other"]
def p_Part_add_d : List Str := ["self", "other"]
abbrev s_Part_radd_d : Stmt := mem 14 15
def n_Part_radd_d : List Str := ["self", "other"]
def p_Part_radd_d : List Str := ["self", "other"]
abbrev s_Part_sub_d : Stmt := mem 14 16
def n_Part_sub_d : List Str := ["self", "other"]
def p_Part_sub_d : List Str := ["self", "other"]
abbrev s_Part_rsub_d : Stmt := mem 14 17
def n_Part_rsub_d : List Str := ["self", "other"]
def p_Part_rsub_d : List Str := ["self", "other"]
abbrev s_Part_mul_d : Stmt := mem 14 18
def n_Part_mul_d : List Str := ["self", "other"]
def p_Part_mul_d : List Str := ["self", "other"]
abbrev s_Part_rmul_d : Stmt := mem 14 19
def n_Part_rmul_d : List Str := ["self", "other"]
def p_Part_rmul_d : List Str := ["self", "other"]
def errs : List Str := ["PouredError", "BadPart", "BadText"]
def blts : List Str := ["abs", "all", "bool", "int", "isinstance", "len", "list", "max", "min", "range", "repr", "str"]
def g : Glo := ([("is_integer", .fn 22), ("is_whole", .fn 27), ("common", .fn 20), ("is_number", .fn 23), ("as_part", .fn 19), ("gap", .fn 21), ("joined", .fn 24), ("multiplied", .fn 25), ("part_in", .fn 28), ("_law_pot", .fn 16), ("_law_take", .fn 18), ("_law_of", .fn 46), ("_law_cells", .fn 15), ("_law_odd", .fn 109), ("_law_pair", .fn 49), ("_law_part_text", .fn 50), ("_law_made", .fn 118), ("_law_whole", .fn 356), ("_law_fraction_in", .fn 335), ("_law_spoilt", .fn 351), ("_law_right", .fn 17), ("law", .fn 0), ("Part", .cls), ("Part.of", .st "Part" "of" 510), ("_law_told", .tld [(defScope s__law_right).names]), ("FIGURES", .val (.str "0123456789")), ("MINUS", .val (.str "-")), ("PAIR", .val (.int 2)), ("STROKE", .val (.str "/"))] : Glo) ++ (errs.map (fun x => (x, GV.err)) ++ blts.map (fun x => (x, GV.blt)))
abbrev k__law_pot : Nat := 16
def b__law_pot : List IS := [IS.asg (ITg.nm 2) ((IE.cmp CmpOp.Lt (IE.var 1) (IE.blt Bi.len [IE.var 0])).ife ((IE.var 0).ix (IE.var 1)) (IE.bin Operator.Add (IE.bin Operator.Mult (IE.cst (Val.int 73)) (IE.var 1)) (IE.cst (Val.int 50)))), IS.asg (ITg.nm 3) (IE.bin Operator.Mult (IE.bin Operator.Mod (IE.blt Bi.int [IE.blt Bi.abs [IE.var 2]]) (IE.bin Operator.Pow (IE.bin Operator.Pow (IE.cst (Val.int 10)) (IE.cst (Val.int 60))) (IE.cst (Val.int 5)))) (IE.blt Bi.int [IE.cmp CmpOp.GtE (IE.blt Bi.abs [IE.var 2]) (IE.bin Operator.Pow (IE.cst (Val.int 10)) (IE.cst (Val.int 18)))])), IS.asg (ITg.nm 4) (IE.bin Operator.Mod (IE.blt Bi.int [IE.var 2]) (IE.cst (Val.int 2305843009213693951))), IS.ret (some (IE.ls [IE.var 3, IE.bin Operator.Mod (IE.blt Bi.int [IE.bin Operator.Add (IE.bin Operator.Add (IE.bin Operator.Mult (IE.var 4) (IE.cst (Val.int 64408))) (IE.bin Operator.Mult (IE.bin Operator.Mult (IE.cst (Val.int 8539)) (IE.var 1)) (IE.var 1))) (IE.cst (Val.int 110))]) (IE.cst (Val.int 2305843009213693921)), IE.cst (Val.int 0)]))]
abbrev k__law_take : Nat := 18
def b__law_take : List IS := [IS.iff (IE.cmp CmpOp.Gt ((IE.var 0).ix (IE.cst (Val.int 0))) (IE.cst (Val.int 0))) [IS.asg (ITg.nm 4) (IE.bin Operator.Mod (IE.blt Bi.int [(IE.var 0).ix (IE.cst (Val.int 0))]) (IE.var 1)), IS.sub (IE.var 0) (IE.cst (Val.int 0)) (IE.bin Operator.FloorDiv ((IE.var 0).ix (IE.cst (Val.int 0))) (IE.var 1)), IS.ret (some (IE.var 4))] [], IS.sub (IE.var 0) (IE.cst (Val.int 2)) (IE.bin Operator.Add ((IE.var 0).ix (IE.cst (Val.int 2))) (IE.cst (Val.int 1))), IS.asg (ITg.nm 2) ((IE.ls [IE.cst (Val.int 2147483647), IE.cst (Val.int 2147483629), IE.cst (Val.int 2147483587), IE.cst (Val.int 2147483579), IE.cst (Val.int 2147483563)]).ix (IE.bin Operator.Mod (IE.blt Bi.int [(IE.var 0).ix (IE.cst (Val.int 2))]) (IE.cst (Val.int 5)))), IS.asg (ITg.nm 3) (IE.bin Operator.Mod (IE.blt Bi.int [IE.bin Operator.Pow (IE.blt Bi.int [IE.bin Operator.Add (IE.bin Operator.Add ((IE.var 0).ix (IE.cst (Val.int 1))) (IE.bin Operator.Mult (IE.bin Operator.Mult (IE.cst (Val.int 100589)) ((IE.var 0).ix (IE.cst (Val.int 2)))) ((IE.var 0).ix (IE.cst (Val.int 2))))) (IE.cst (Val.int 38))]) (IE.cst (Val.int 3))]) (IE.var 2)), IS.asg (ITg.nm 3) (IE.bin Operator.Mod (IE.blt Bi.int [IE.bin Operator.Mult (IE.var 3) (IE.bin Operator.Add (IE.bin Operator.Mod (IE.blt Bi.int [IE.var 3]) (IE.cst (Val.int 10049))) (IE.bin Operator.Mult (IE.cst (Val.int 90)) ((IE.var 0).ix (IE.cst (Val.int 2)))))]) (IE.cst (Val.int 2305843009213693907))), IS.ret (some (IE.bin Operator.Mod (IE.blt Bi.int [IE.bin Operator.FloorDiv (IE.var 3) (IE.cst (Val.int 151))]) (IE.var 1)))]
abbrev k__law_odd : Nat := 109
def b__law_odd : List IS := [IS.asg (ITg.nm 1) (IE.ls [IE.cst Val.non, IE.cst (Val.bl true), IE.cst (Val.bl false), IE.cst (Val.int 0), IE.cst (Val.int 1), (IE.cst (Val.int 1)).neg, IE.cst (Val.int 2), IE.cst (Val.str ""), IE.cst (Val.str "a"), IE.cst (Val.str "p"), IE.cst (Val.str "walks"), IE.tp [], IE.ls [], IE.dsp [] [], IE.tp [IE.cst (Val.int 0)], IE.tp [IE.tp []], IE.ls [IE.cst (Val.int 0)], IE.tp [IE.cst (Val.str "a"), IE.cst (Val.str "b")]]), IS.ret (some (IE.cal 46 [IE.var 0, IE.bin Operator.Add (IE.var 1) (IE.ls [IE.tp [IE.tp [IE.cst (Val.str "a")]], IE.tp [IE.cst (Val.str "p"), IE.cst (Val.str "q")], IE.tp [IE.cst Val.non], IE.bin Operator.Pow (IE.cst (Val.int 10)) (IE.cst (Val.int 8)), IE.cst (Val.str "A"), IE.tp [IE.cst (Val.bl true)], IE.dsp ["a"] [IE.cst (Val.int 1)], IE.tp [IE.cst (Val.str "never")]])]))]
abbrev k__law_part_text : Nat := 50
def b__law_part_text : List IS := [IS.ret (some ((IE.cmp CmpOp.Eq ((IE.var 0).ix (IE.cst (Val.int 1))) (IE.cst (Val.int 1))).ife (IE.blt Bi.str [(IE.var 0).ix (IE.cst (Val.int 0))]) (IE.bin Operator.Add (IE.bin Operator.Add (IE.blt Bi.str [(IE.var 0).ix (IE.cst (Val.int 0))]) (IE.cst (Val.str "/"))) (IE.blt Bi.str [(IE.var 0).ix (IE.cst (Val.int 1))]))))]
abbrev k__law_whole : Nat := 356
def b__law_whole : List IS := [IS.iff (IE.orr [IE.cmp CmpOp.Eq (IE.var 0) (IE.cst (Val.str "")), (IE.blt Bi.all [IE.lc (ITg.nm 1) 0 [IE.var 0] [] (IE.cmp CmpOp.In (IE.var 1) (IE.cst (Val.str "0123456789"))) [1]]).nt, IE.an [IE.cmp CmpOp.Gt (IE.blt Bi.len [IE.var 0]) (IE.cst (Val.int 1)), IE.cmp CmpOp.Eq ((IE.var 0).ix (IE.cst (Val.int 0))) (IE.cst (Val.str "0"))]]) [IS.ret (some (IE.cst Val.non))] [], IS.ret (some (IE.blt Bi.int [IE.var 0]))]
abbrev k__law_fraction_in : Nat := 335
def b__law_fraction_in : List IS := [IS.asg (ITg.tp [ITg.nm 3, ITg.nm 4]) ((IE.cmp CmpOp.Eq ((IE.var 0).sl none (some (IE.cst (Val.int 1)))) (IE.cst (Val.str "-"))).ife (IE.tp [(IE.cst (Val.int 1)).neg, (IE.var 0).sl (some (IE.cst (Val.int 1))) none]) (IE.tp [IE.cst (Val.int 1), IE.var 0])), IS.asg (ITg.nm 1) (IE.mth Mt.split (IE.var 4) [IE.cst (Val.str "/")]), IS.asg (ITg.nm 2) (IE.lc (ITg.nm 5) 0 [IE.var 1] [] (IE.cal 356 [IE.var 5]) [5]), IS.iff (IE.orr [IE.cmp CmpOp.In (IE.cst Val.non) (IE.var 2), IE.cmp CmpOp.Gt (IE.blt Bi.len [IE.var 1]) (IE.cst (Val.int 2)), IE.an [IE.cmp CmpOp.Lt (IE.var 3) (IE.cst (Val.int 0)), IE.cmp CmpOp.Eq ((IE.var 2).ix (IE.cst (Val.int 0))) (IE.cst (Val.int 0))]]) [IS.ret (some (IE.cst Val.non))] [], IS.iff (IE.cmp CmpOp.Eq (IE.blt Bi.len [IE.var 1]) (IE.cst (Val.int 1))) [IS.ret (some (IE.tp [IE.bin Operator.Mult (IE.var 3) ((IE.var 2).ix (IE.cst (Val.int 0))), IE.cst (Val.int 1)]))] [], IS.iff (IE.orr [IE.cmp CmpOp.Lt ((IE.var 2).ix (IE.cst (Val.int 1))) (IE.cst (Val.int 2)), IE.cmp CmpOp.NotEq (IE.cal 49 [(IE.var 2).ix (IE.cst (Val.int 0)), (IE.var 2).ix (IE.cst (Val.int 1))]) (IE.tp [(IE.var 2).ix (IE.cst (Val.int 0)), (IE.var 2).ix (IE.cst (Val.int 1))])]) [IS.ret (some (IE.cst Val.non))] [], IS.ret (some (IE.tp [IE.bin Operator.Mult (IE.var 3) ((IE.var 2).ix (IE.cst (Val.int 0))), (IE.var 2).ix (IE.cst (Val.int 1))]))]
abbrev k__law_spoilt : Nat := 351
def b__law_spoilt : List IS := [IS.asg (ITg.tp [ITg.nm 3, ITg.nm 4]) (IE.tp [IE.cal 18 [IE.var 0, IE.bin Operator.Add (IE.blt Bi.len [IE.var 1]) (IE.cst (Val.int 1))], IE.cal 18 [IE.var 0, IE.cst (Val.int 3)]]), IS.asg (ITg.nm 2) (IE.cal 46 [IE.var 0, IE.ls [IE.cst (Val.str "0"), IE.cst (Val.str "1"), IE.cst (Val.str "/"), IE.cst (Val.str "-"), IE.cst (Val.str " "), IE.cst (Val.str "+"), IE.cst (Val.str "."), IE.cst (Val.str "2"), IE.cst (Val.str "a")]]), IS.iff (IE.cmp CmpOp.Eq (IE.var 4) (IE.cst (Val.int 0))) [IS.ret (some (IE.bin Operator.Add (IE.bin Operator.Add ((IE.var 1).sl none (some (IE.var 3))) (IE.var 2)) ((IE.var 1).sl (some (IE.var 3)) none)))] [], IS.ret (some ((IE.cmp CmpOp.Eq (IE.var 4) (IE.cst (Val.int 1))).ife (IE.bin Operator.Add ((IE.var 1).sl none (some (IE.var 3))) ((IE.var 1).sl (some (IE.bin Operator.Add (IE.var 3) (IE.cst (Val.int 1)))) none)) (IE.bin Operator.Add (IE.bin Operator.Add ((IE.var 1).sl none (some (IE.var 3))) (IE.var 2)) ((IE.var 1).sl (some (IE.bin Operator.Add (IE.var 3) (IE.cst (Val.int 1)))) none))))]
abbrev k__law_right : Nat := 17
def b__law_right : List IS := [IS.asg (ITg.nm 1) (IE.ls [IE.cst (Val.str ""), IE.cst (Val.str "0"), IE.cst (Val.str "-0"), IE.cst (Val.str "1/1"), IE.cst (Val.str "2/4"), IE.cst (Val.str "1/0"), IE.cst (Val.str "0/3"), IE.cst (Val.str "+1"), IE.cst (Val.str "01"), IE.cst (Val.str "1/02"), IE.cst (Val.str "--1"), IE.cst (Val.str "1/-2"), IE.cst (Val.str " 1"), IE.cst (Val.str "1/2/3"), IE.cst (Val.str "/2")]), IS.asg (ITg.nm 1) (IE.bin Operator.Add (IE.var 1) (IE.ls [IE.cst (Val.str "1/"), IE.cst (Val.str "-")])), IS.for_ (ITg.nm 2) 1 [IE.cst (Val.int 10)] [IS.asg (ITg.nm 4) (IE.cal 49 [IE.cal 46 [IE.var 0, IE.ls [IE.cst (Val.int 0), IE.cst (Val.int 1), (IE.cst (Val.int 1)).neg, IE.cst (Val.int 2), (IE.cst (Val.int 3)).neg, IE.cst (Val.int 10), IE.cst (Val.int 12), (IE.cst (Val.int 30)).neg, IE.cst (Val.int 999999)]], IE.cal 46 [IE.var 0, IE.ls [IE.cst (Val.int 1), IE.cst (Val.int 2), IE.cst (Val.int 3), IE.cst (Val.int 4), IE.cst (Val.int 10), IE.cst (Val.int 12), IE.cst (Val.int 35)]]]), IS.asg (ITg.nm 5) (IE.cal 50 [IE.var 4]), IS.iff (IE.orr [IE.cmp CmpOp.NotEq ((IE.cal 118 [IE.var 4]).att "text").rpr (IE.var 5).rpr, IE.cmp CmpOp.NotEq (IE.cal 510 [IE.var 5]) (IE.cal 118 [IE.var 4])]) [IS.ret (some (IE.cst (Val.bl false)))] [], IS.ex (IE.mth Mt.extend (IE.var 1) [IE.ls [IE.cal 351 [IE.var 0, IE.var 5], IE.cal 351 [IE.var 0, IE.cal 351 [IE.var 0, IE.var 5]]]])], IS.for_ (ITg.nm 3) 0 [IE.bin Operator.Add (IE.var 1) (IE.ls [IE.cst Val.non, IE.cst (Val.int 0), IE.cst (Val.bl true), IE.cst (Val.int 1), IE.tp [], IE.ls [IE.cst (Val.str "1")], IE.tp [IE.cst (Val.str "1"), IE.cst (Val.str "2")], IE.mk "Part" [IE.cst (Val.int 1)], IE.cal 109 [IE.var 0]])] [IS.asg (ITg.nm 6) (((IE.var 3).isi (ClR.ty "str")).ife (IE.cal 335 [IE.var 3]) (IE.cst Val.non)), IS.asg (ITg.tp [ITg.nm 7, ITg.nm 8]) (IE.cal 510 [IE.var 3]).tld, IS.iff (IE.cmp CmpOp.Is (IE.var 6) (IE.cst Val.non)) [IS.iff (IE.orr [((IE.var 7).isi (ClR.own "BadText")).nt, IE.cmp CmpOp.NotEq (IE.var 7).fld.rpr (IE.var 3).rpr]) [IS.ret (some (IE.cst (Val.bl false)))] []] [IS.iff (IE.orr [IE.cmp CmpOp.IsNot (IE.var 7) (IE.cst Val.non), IE.cmp CmpOp.NotEq (IE.tp [(IE.var 8).att "number", (IE.var 8).att "under"]).rpr (IE.var 6).rpr]) [IS.ret (some (IE.cst (Val.bl false)))] []]], IS.ret (some (IE.cst (Val.bl true)))]
def tx_is_integer : TxD := ⟨("is_integer", none), false, "is_integer", s_is_integer, p_is_integer, n_is_integer, b_is_integer, [], false⟩
def tx_is_whole : TxD := ⟨("is_whole", none), false, "is_whole", s_is_whole, p_is_whole, n_is_whole, b_is_whole, [], false⟩
def tx_common : TxD := ⟨("common", none), false, "common", s_common, p_common, n_common, b_common, [], false⟩
def tx_is_number : TxD := ⟨("is_number", none), false, "is_number", s_is_number, p_is_number, n_is_number, b_is_number, [], false⟩
def tx_as_part : TxD := ⟨("as_part", none), false, "as_part", s_as_part, p_as_part, n_as_part, b_as_part, [], false⟩
def tx_gap : TxD := ⟨("gap", none), false, "gap", s_gap, p_gap, n_gap, b_gap, [], false⟩
def tx_joined : TxD := ⟨("joined", none), false, "joined", s_joined, p_joined, n_joined, b_joined, [], false⟩
def tx_multiplied : TxD := ⟨("multiplied", none), false, "multiplied", s_multiplied, p_multiplied, n_multiplied, b_multiplied, [], false⟩
def tx_part_in : TxD := ⟨("part_in", none), false, "part_in", s_part_in, p_part_in, n_part_in, b_part_in, [], false⟩
def tx__law_pot : TxD := ⟨("_law_pot", none), false, "_law_pot", s__law_pot, p__law_pot, n__law_pot, b__law_pot, [], false⟩
def tx__law_take : TxD := ⟨("_law_take", none), false, "_law_take", s__law_take, p__law_take, n__law_take, b__law_take, [], false⟩
def tx__law_of : TxD := ⟨("_law_of", none), false, "_law_of", s__law_of, p__law_of, n__law_of, b__law_of, [], false⟩
def tx__law_cells : TxD := ⟨("_law_cells", none), false, "_law_cells", s__law_cells, p__law_cells, n__law_cells, b__law_cells, [], false⟩
def tx__law_odd : TxD := ⟨("_law_odd", none), false, "_law_odd", s__law_odd, p__law_odd, n__law_odd, b__law_odd, [], false⟩
def tx__law_pair : TxD := ⟨("_law_pair", none), false, "_law_pair", s__law_pair, p__law_pair, n__law_pair, b__law_pair, [], false⟩
def tx__law_part_text : TxD := ⟨("_law_part_text", none), false, "_law_part_text", s__law_part_text, p__law_part_text, n__law_part_text, b__law_part_text, [], false⟩
def tx__law_made : TxD := ⟨("_law_made", none), false, "_law_made", s__law_made, p__law_made, n__law_made, b__law_made, [], false⟩
def tx__law_whole : TxD := ⟨("_law_whole", none), false, "_law_whole", s__law_whole, p__law_whole, n__law_whole, b__law_whole, [], false⟩
def tx__law_fraction_in : TxD := ⟨("_law_fraction_in", none), false, "_law_fraction_in", s__law_fraction_in, p__law_fraction_in, n__law_fraction_in, b__law_fraction_in, [], false⟩
def tx__law_spoilt : TxD := ⟨("_law_spoilt", none), false, "_law_spoilt", s__law_spoilt, p__law_spoilt, n__law_spoilt, b__law_spoilt, [], false⟩
def tx__law_right : TxD := ⟨("_law_right", none), false, "_law_right", s__law_right, p__law_right, n__law_right, b__law_right, [], false⟩
def tx_law : TxD := ⟨("law", none), false, "law", s_law, p_law, n_law, b_law, [], false⟩
def tx_Part_init_d : TxD := ⟨("Part", some ("__init__" : Str)), false, "Part.__init__", s_Part_init_d, p_Part_init_d, n_Part_init_d, b_Part_init_d, [.int 1], false⟩
def tx_Part_number : TxD := ⟨("Part", some ("number" : Str)), true, "Part.number", s_Part_number, p_Part_number, n_Part_number, b_Part_number, [], false⟩
def tx_Part_under : TxD := ⟨("Part", some ("under" : Str)), true, "Part.under", s_Part_under, p_Part_under, n_Part_under, b_Part_under, [], false⟩
def tx_Part_text : TxD := ⟨("Part", some ("text" : Str)), true, "Part.text", s_Part_text, p_Part_text, n_Part_text, b_Part_text, [], false⟩
def tx_Part_of : TxD := ⟨("Part", some ("of" : Str)), true, "Part.of", s_Part_of, p_Part_of, n_Part_of, b_Part_of, [], true⟩
def tx_Part_repr_d : TxD := ⟨("Part", some ("__repr__" : Str)), false, "Part.__repr__", s_Part_repr_d, p_Part_repr_d, n_Part_repr_d, b_Part_repr_d, [], false⟩
def tx_Part_eq_d : TxD := ⟨("Part", some ("__eq__" : Str)), false, "Part.__eq__", s_Part_eq_d, p_Part_eq_d, n_Part_eq_d, b_Part_eq_d, [], false⟩
def tx_Part_lt_d : TxD := ⟨("Part", some ("__lt__" : Str)), false, "Part.__lt__", s_Part_lt_d, p_Part_lt_d, n_Part_lt_d, b_Part_lt_d, [], false⟩
def tx_Part_le_d : TxD := ⟨("Part", some ("__le__" : Str)), false, "Part.__le__", s_Part_le_d, p_Part_le_d, n_Part_le_d, b_Part_le_d, [], false⟩
def tx_Part_gt_d : TxD := ⟨("Part", some ("__gt__" : Str)), false, "Part.__gt__", s_Part_gt_d, p_Part_gt_d, n_Part_gt_d, b_Part_gt_d, [], false⟩
def tx_Part_ge_d : TxD := ⟨("Part", some ("__ge__" : Str)), false, "Part.__ge__", s_Part_ge_d, p_Part_ge_d, n_Part_ge_d, b_Part_ge_d, [], false⟩
def tx_Part_neg_d : TxD := ⟨("Part", some ("__neg__" : Str)), false, "Part.__neg__", s_Part_neg_d, p_Part_neg_d, n_Part_neg_d, b_Part_neg_d, [], false⟩
def tx_Part_add_d : TxD := ⟨("Part", some ("__add__" : Str)), false, "Part.__add__", s_Part_add_d, p_Part_add_d, n_Part_add_d, b_Part_add_d, [], false⟩
def tx_Part_radd_d : TxD := ⟨("Part", some ("__radd__" : Str)), false, "Part.__radd__", s_Part_radd_d, p_Part_radd_d, n_Part_radd_d, b_Part_radd_d, [], false⟩
def tx_Part_sub_d : TxD := ⟨("Part", some ("__sub__" : Str)), false, "Part.__sub__", s_Part_sub_d, p_Part_sub_d, n_Part_sub_d, b_Part_sub_d, [], false⟩
def tx_Part_rsub_d : TxD := ⟨("Part", some ("__rsub__" : Str)), false, "Part.__rsub__", s_Part_rsub_d, p_Part_rsub_d, n_Part_rsub_d, b_Part_rsub_d, [], false⟩
def tx_Part_mul_d : TxD := ⟨("Part", some ("__mul__" : Str)), false, "Part.__mul__", s_Part_mul_d, p_Part_mul_d, n_Part_mul_d, b_Part_mul_d, [], false⟩
def tx_Part_rmul_d : TxD := ⟨("Part", some ("__rmul__" : Str)), false, "Part.__rmul__", s_Part_rmul_d, p_Part_rmul_d, n_Part_rmul_d, b_Part_rmul_d, [], false⟩
def txs : List (Option TxD) := [some tx_law, some tx_Part_add_d, some tx_Part_eq_d, some tx_Part_ge_d, some tx_Part_gt_d, some tx_Part_init_d, some tx_Part_le_d, some tx_Part_lt_d, some tx_Part_mul_d, some tx_Part_neg_d, some tx_Part_radd_d, some tx_Part_repr_d, some tx_Part_rmul_d, some tx_Part_rsub_d, some tx_Part_sub_d, some tx__law_cells, some tx__law_pot, some tx__law_right, some tx__law_take, some tx_as_part, some tx_common, some tx_gap, some tx_is_integer, some tx_is_number, some tx_joined, some tx_multiplied, some tx_Part_text, some tx_is_whole, some tx_part_in, none, none, none, none, none, none, none, none, none, none, none, none, none, none, none, none, none, some tx__law_of, none, none, some tx__law_pair, some tx__law_part_text, none, none, none, none, none, none, none, none, none, none, none, none, none, none, none, none, none, none, none, none, none, none, none, none, none, none, none, none, none, none, none, none, none, none, none, none, none, none, none, none, none, none, none, none, none, none, none, none, none, none, none, none, none, none, none, none, none, none, some tx__law_odd, none, none, none, none, none, none, none, none, some tx__law_made, none, none, none, none, none, none, none, none, none, none, none, none, none, none, none, none, none, none, none, none, none, none, none, none, none, none, none, none, none, none, none, none, none, none, none, none, none, none, none, none, none, none, none, none, none, none, none, none, none, none, none, none, none, some tx_Part_number, none, none, none, none, none, none, none, none, none, none, none, none, none, none, none, none, some tx_Part_under, none, none, none, none, none, none, none, none, none, none, none, none, none, none, none, none, none, none, none, none, none, none, none, none, none, none, none, none, none, none, none, none, none, none, none, none, none, none, none, none, none, none, none, none, none, none, none, none, none, none, none, none, none, none, none, none, none, none, none, none, none, none, none, none, none, none, none, none, none, none, none, none, none, none, none, none, none, none, none, none, none, none, none, none, none, none, none, none, none, none, none, none, none, none, none, none, none, none, none, none, none, none, none, none, none, none, none, none, none, none, none, none, none, none, none, none, none, none, none, none, none, none, none, none, none, none, none, none, none, none, none, none, none, none, none, none, none, none, none, none, none, none, none, none, none, some tx__law_fraction_in, none, none, none, none, none, none, none, none, none, none, none, none, none, none, none, some tx__law_spoilt, none, none, none, none, some tx__law_whole, none, none, none, none, none, none, none, none, none, none, none, none, none, none, none, none, none, none, none, none, none, none, none, none, none, none, none, none, none, none, none, none, none, none, none, none, none, none, none, none, none, none, none, none, none, none, none, none, none, none, none, none, none, none, none, none, none, none, none, none, none, none, none, none, none, none, none, none, none, none, none, none, none, none, none, none, none, none, none, none, none, none, none, none, none, none, none, none, none, none, none, none, none, none, none, none, none, none, none, none, none, none, none, none, none, none, none, none, none, none, none, none, none, none, none, none, none, none, none, none, none, none, none, none, none, none, none, none, none, none, none, none, none, none, none, none, none, none, none, none, none, none, none, none, none, none, none, none, none, none, none, none, none, some tx_Part_of]
def I_Part : ClsI := ⟨["own_number", "own_under"], [("number", 172), ("under", 189), ("text", 26)], [("__repr__", 11), ("__eq__", 2), ("__lt__", 7), ("__le__", 6), ("__gt__", 4), ("__ge__", 3), ("__neg__", 9), ("__add__", 1), ("__radd__", 10), ("__sub__", 14), ("__rsub__", 13), ("__mul__", 8), ("__rmul__", 12)], 5, false⟩
def cI : List (Str × ClsI) := [("Part", I_Part)]
def tI : List (ClR × List (ClR × Bool)) := [(.ty "NoneType", [(.ty "int", false), (.ty "bool", false), (.own "Part", false), (.ty "str", false), (.own "BadText", false)]),
  (.ty "bool", [(.ty "int", true), (.ty "bool", true), (.own "Part", false), (.ty "str", false), (.own "BadText", false)]),
  (.ty "int", [(.ty "int", true), (.ty "bool", false), (.own "Part", false), (.ty "str", false), (.own "BadText", false)]),
  (.ty "str", [(.ty "int", false), (.ty "bool", false), (.own "Part", false), (.ty "str", true), (.own "BadText", false)]),
  (.ty "tuple", [(.ty "int", false), (.ty "bool", false), (.own "Part", false), (.ty "str", false), (.own "BadText", false)]),
  (.ty "list", [(.ty "int", false), (.ty "bool", false), (.own "Part", false), (.ty "str", false), (.own "BadText", false)]),
  (.ty "dict", [(.ty "int", false), (.ty "bool", false), (.own "Part", false), (.ty "str", false), (.own "BadText", false)]),
  (.own "Part", [(.ty "int", false), (.ty "bool", false), (.own "Part", true), (.ty "str", false), (.own "BadText", false)]),
  (.own "PouredError", [(.ty "int", false), (.ty "bool", false), (.own "Part", false), (.ty "str", false), (.own "BadText", false)]),
  (.own "BadPart", [(.ty "int", false), (.ty "bool", false), (.own "Part", false), (.ty "str", false), (.own "BadText", false)]),
  (.own "BadText", [(.ty "int", false), (.ty "bool", false), (.own "Part", false), (.ty "str", false), (.own "BadText", true)])]
def sI : Stmt := mem 2 0
def iI : FnI := some ("__init__", "PouredError.__init__", defArgs sI, .stmts (defBody sI), defScope sI)
def names : List Str := ["is_integer", "is_whole", "common", "is_number", "as_part", "gap", "joined", "multiplied", "part_in", "_law_pot", "_law_take", "_law_of", "_law_cells", "_law_odd", "_law_pair", "_law_part_text", "_law_made", "_law_whole", "_law_fraction_in", "_law_spoilt", "_law_right", "law", "Part", "PouredError", "BadPart", "BadText", "_law_told"]
abbrev s__law_told : Stmt := top 26
def told : Option (He.DefD × Str) := some (⟨("_law_told", none), "_law_told", "_law_told", defArgs s__law_told, defBody s__law_told, defScope s__law_told, [], []⟩, "PouredError")
abbrev R : PySem.W.OpenRow := PySem.W.OpenLaw.row PySem.Challenge.rw_somepoured_k03_texts_of_parts
def T : HdT := ⟨R.prog, names, g, txs, "PouredError", errs, tI, iI, cI, ["_law_right"], told⟩
abbrev G : Prg := T.G
end Lw

set_option Elab.async false
set_option linter.all false
set_option maxRecDepth 100000
set_option maxHeartbeats 0
namespace Lw
open PySem PySem.Spec PyProof.Rows L2 Mi
abbrev hk : PySem.W.Hook := hookT T
def ob (s : PySem.W.SharedT) : AlT := obsT T (HandSHeadRun.getT s)
theorem ob_eq (s : PySem.W.SharedT) : ob s = hk.obs s.abs := obsT_eq (HandSHeadRun.getT_eq s)
def loose0 : List Str := ["_wall", "__name__", "PouredError", "BadPart", "BadText", "FIGURES", "MINUS", "PAIR", "is_integer", "is_whole", "common", "STROKE", "Part", "is_number", "as_part", "gap", "joined", "multiplied", "part_in", "_law_pot", "_law_take", "_law_of", "_law_cells", "_law_told", "_law_odd", "_law_pair", "_law_part_text", "_law_made", "_law_whole", "_law_fraction_in"]
def loose1 : List Str := ["_law_spoilt", "_law_right"]
def loose : List Str := loose0 ++ loose1
theorem run (w : World) : HandSHeadRun.RunEq R (PySem.W.view R.prog [34, 35]) hk ob 6000 loose w := by
  intro os
  kernel_rfl
end Lw

set_option Elab.async false
set_option linter.all false
set_option maxRecDepth 100000
set_option maxHeartbeats 0
namespace Lw
open PySem PySem.Spec PyProof.Rows L2 Mi
theorem ok_is_integer : TxD.Ok g T.lams tx_is_integer := ⟨⟨rfl, rfl, rfl, by decide +kernel, rfl, by decide +kernel, by decide +kernel⟩, by kernel_rfl, rfl, fun _ _ _ _ _ _ _ us hl => match us, hl with | [_], _ => rfl, fun z => absurd rfl z, fun z => by have q : tabS g (defScope s_is_integer) = false := (by kernel_rfl); exact absurd (q.symm.trans z) (by decide)⟩
theorem ok_is_whole : TxD.Ok g T.lams tx_is_whole := ⟨⟨rfl, rfl, rfl, by decide +kernel, rfl, by decide +kernel, by decide +kernel⟩, by kernel_rfl, rfl, fun _ _ _ _ _ _ _ us hl => match us, hl with | [_], _ => rfl, fun z => absurd rfl z, fun z => by have q : tabS g (defScope s_is_whole) = false := (by kernel_rfl); exact absurd (q.symm.trans z) (by decide)⟩
theorem ok_common : TxD.Ok g T.lams tx_common := ⟨⟨rfl, rfl, rfl, by decide +kernel, rfl, by decide +kernel, by decide +kernel⟩, by kernel_rfl, rfl, fun _ _ _ _ _ _ _ us hl => match us, hl with | [_, _], _ => rfl, fun z => absurd rfl z, fun z => by have q : tabS g (defScope s_common) = false := (by kernel_rfl); exact absurd (q.symm.trans z) (by decide)⟩
theorem ok_is_number : TxD.Ok g T.lams tx_is_number := ⟨⟨rfl, rfl, rfl, by decide +kernel, rfl, by decide +kernel, by decide +kernel⟩, by kernel_rfl, rfl, fun _ _ _ _ _ _ _ us hl => match us, hl with | [_], _ => rfl, fun z => absurd rfl z, fun z => by have q : tabS g (defScope s_is_number) = false := (by kernel_rfl); exact absurd (q.symm.trans z) (by decide)⟩
theorem ok_as_part : TxD.Ok g T.lams tx_as_part := ⟨⟨rfl, rfl, rfl, by decide +kernel, rfl, by decide +kernel, by decide +kernel⟩, by kernel_rfl, rfl, fun _ _ _ _ _ _ _ us hl => match us, hl with | [_], _ => rfl, fun z => absurd rfl z, fun z => by have q : tabS g (defScope s_as_part) = false := (by kernel_rfl); exact absurd (q.symm.trans z) (by decide)⟩
theorem ok_gap : TxD.Ok g T.lams tx_gap := ⟨⟨rfl, rfl, rfl, by decide +kernel, rfl, by decide +kernel, by decide +kernel⟩, by kernel_rfl, rfl, fun _ _ _ _ _ _ _ us hl => match us, hl with | [_, _], _ => rfl, fun z => absurd rfl z, fun z => by have q : tabS g (defScope s_gap) = false := (by kernel_rfl); exact absurd (q.symm.trans z) (by decide)⟩
theorem ok_joined : TxD.Ok g T.lams tx_joined := ⟨⟨rfl, rfl, rfl, by decide +kernel, rfl, by decide +kernel, by decide +kernel⟩, by kernel_rfl, rfl, fun _ _ _ _ _ _ _ us hl => match us, hl with | [_, _, _], _ => rfl, fun z => absurd rfl z, fun z => by have q : tabS g (defScope s_joined) = false := (by kernel_rfl); exact absurd (q.symm.trans z) (by decide)⟩
theorem ok_multiplied : TxD.Ok g T.lams tx_multiplied := ⟨⟨rfl, rfl, rfl, by decide +kernel, rfl, by decide +kernel, by decide +kernel⟩, by kernel_rfl, rfl, fun _ _ _ _ _ _ _ us hl => match us, hl with | [_, _], _ => rfl, fun z => absurd rfl z, fun z => by have q : tabS g (defScope s_multiplied) = false := (by kernel_rfl); exact absurd (q.symm.trans z) (by decide)⟩
theorem ok_part_in : TxD.Ok g T.lams tx_part_in := ⟨⟨rfl, rfl, rfl, by decide +kernel, rfl, by decide +kernel, by decide +kernel⟩, by kernel_rfl, rfl, fun _ _ _ _ _ _ _ us hl => match us, hl with | [_], _ => rfl, fun z => absurd rfl z, fun z => by have q : tabS g (defScope s_part_in) = false := (by kernel_rfl); exact absurd (q.symm.trans z) (by decide)⟩
theorem ok__law_pot : TxD.Ok g T.lams tx__law_pot := ⟨⟨rfl, rfl, rfl, by decide +kernel, rfl, by decide +kernel, by decide +kernel⟩, by kernel_rfl, rfl, fun _ _ _ _ _ _ _ us hl => match us, hl with | [_, _], _ => rfl, fun z => absurd rfl z, fun z => by have q : tabS g (defScope s__law_pot) = false := (by kernel_rfl); exact absurd (q.symm.trans z) (by decide)⟩
theorem ok__law_take : TxD.Ok g T.lams tx__law_take := ⟨⟨rfl, rfl, rfl, by decide +kernel, rfl, by decide +kernel, by decide +kernel⟩, by kernel_rfl, rfl, fun _ _ _ _ _ _ _ us hl => match us, hl with | [_, _], _ => rfl, fun z => absurd rfl z, fun z => by have q : tabS g (defScope s__law_take) = false := (by kernel_rfl); exact absurd (q.symm.trans z) (by decide)⟩
theorem ok__law_of : TxD.Ok g T.lams tx__law_of := ⟨⟨rfl, rfl, rfl, by decide +kernel, rfl, by decide +kernel, by decide +kernel⟩, by kernel_rfl, rfl, fun _ _ _ _ _ _ _ us hl => match us, hl with | [_, _], _ => rfl, fun z => absurd rfl z, fun z => by have q : tabS g (defScope s__law_of) = false := (by kernel_rfl); exact absurd (q.symm.trans z) (by decide)⟩
theorem ok__law_cells : TxD.Ok g T.lams tx__law_cells := ⟨⟨rfl, rfl, rfl, by decide +kernel, rfl, by decide +kernel, by decide +kernel⟩, by kernel_rfl, rfl, fun _ _ _ _ _ _ _ us hl => match us, hl with | [_, _], _ => rfl, fun z => absurd rfl z, fun z => by have q : tabS g (defScope s__law_cells) = false := (by kernel_rfl); exact absurd (q.symm.trans z) (by decide)⟩
theorem ok__law_odd : TxD.Ok g T.lams tx__law_odd := ⟨⟨rfl, rfl, rfl, by decide +kernel, rfl, by decide +kernel, by decide +kernel⟩, by kernel_rfl, rfl, fun _ _ _ _ _ _ _ us hl => match us, hl with | [_], _ => rfl, fun z => absurd rfl z, fun z => by have q : tabS g (defScope s__law_odd) = false := (by kernel_rfl); exact absurd (q.symm.trans z) (by decide)⟩
theorem ok__law_pair : TxD.Ok g T.lams tx__law_pair := ⟨⟨rfl, rfl, rfl, by decide +kernel, rfl, by decide +kernel, by decide +kernel⟩, by kernel_rfl, rfl, fun _ _ _ _ _ _ _ us hl => match us, hl with | [_, _], _ => rfl, fun z => absurd rfl z, fun z => by have q : tabS g (defScope s__law_pair) = false := (by kernel_rfl); exact absurd (q.symm.trans z) (by decide)⟩
theorem ok__law_part_text : TxD.Ok g T.lams tx__law_part_text := ⟨⟨rfl, rfl, rfl, by decide +kernel, rfl, by decide +kernel, by decide +kernel⟩, by kernel_rfl, rfl, fun _ _ _ _ _ _ _ us hl => match us, hl with | [_], _ => rfl, fun z => absurd rfl z, fun z => by have q : tabS g (defScope s__law_part_text) = false := (by kernel_rfl); exact absurd (q.symm.trans z) (by decide)⟩
theorem ok__law_made : TxD.Ok g T.lams tx__law_made := ⟨⟨rfl, rfl, rfl, by decide +kernel, rfl, by decide +kernel, by decide +kernel⟩, by kernel_rfl, rfl, fun _ _ _ _ _ _ _ us hl => match us, hl with | [_], _ => rfl, fun z => absurd rfl z, fun z => by have q : tabS g (defScope s__law_made) = false := (by kernel_rfl); exact absurd (q.symm.trans z) (by decide)⟩
theorem ok__law_whole : TxD.Ok g T.lams tx__law_whole := ⟨⟨rfl, rfl, rfl, by decide +kernel, rfl, by decide +kernel, by decide +kernel⟩, by kernel_rfl, rfl, fun _ _ _ _ _ _ _ us hl => match us, hl with | [_], _ => rfl, fun z => absurd rfl z, fun z => by have q : tabS g (defScope s__law_whole) = false := (by kernel_rfl); exact absurd (q.symm.trans z) (by decide)⟩
theorem ok__law_fraction_in : TxD.Ok g T.lams tx__law_fraction_in := ⟨⟨rfl, rfl, rfl, by decide +kernel, rfl, by decide +kernel, by decide +kernel⟩, by kernel_rfl, rfl, fun _ _ _ _ _ _ _ us hl => match us, hl with | [_], _ => rfl, fun z => absurd rfl z, fun z => by have q : tabS g (defScope s__law_fraction_in) = false := (by kernel_rfl); exact absurd (q.symm.trans z) (by decide)⟩
theorem ok__law_spoilt : TxD.Ok g T.lams tx__law_spoilt := ⟨⟨rfl, rfl, rfl, by decide +kernel, rfl, by decide +kernel, by decide +kernel⟩, by kernel_rfl, rfl, fun _ _ _ _ _ _ _ us hl => match us, hl with | [_, _], _ => rfl, fun z => absurd rfl z, fun z => by have q : tabS g (defScope s__law_spoilt) = false := (by kernel_rfl); exact absurd (q.symm.trans z) (by decide)⟩
theorem ok__law_right : TxD.Ok g T.lams tx__law_right := ⟨⟨rfl, rfl, rfl, by decide +kernel, rfl, by decide +kernel, by decide +kernel⟩, by kernel_rfl, rfl, fun _ _ _ _ _ _ _ us hl => match us, hl with | [_], _ => rfl, fun z => absurd rfl z, fun z => ⟨rfl, rfl, by decide⟩⟩
theorem ok_law : TxD.Ok g T.lams tx_law := ⟨⟨rfl, rfl, rfl, by decide +kernel, rfl, by decide +kernel, by decide +kernel⟩, by kernel_rfl, rfl, fun _ _ _ _ _ _ _ us hl => match us, hl with | [_], _ => rfl, fun z => absurd rfl z, fun z => by have q : tabS g (defScope s_law) = false := (by kernel_rfl); exact absurd (q.symm.trans z) (by decide)⟩
theorem ok_Part_init_d : TxD.Ok g T.lams tx_Part_init_d := ⟨⟨rfl, rfl, rfl, by decide +kernel, rfl, by decide +kernel, by decide +kernel⟩, by kernel_rfl, rfl, fun z => absurd z (by decide), fun _ => ⟨by decide, fun j hj T kV doc pm an cdv ct us its h1 h2 => match j, hj, T, kV, doc, pm, an, cdv, ct, us, its, h1, h2 with | 0, _, _, _, _, _, _, _, _, us, its, h1, h2 => (match us, its, h1, h2 with | [_, _], [_], _, _ => ⟨_, rfl, rfl⟩) | 1, _, _, _, _, _, _, _, _, us, its, h1, h2 => (match us, its, h1, h2 with | [_, _, _], [_], _, _ => ⟨_, rfl, rfl⟩) | _ + 2, hj, _, _, _, _, _, _, _, _, _, _, _ => absurd hj (by show ¬ (_ + 2 ≤ 1); omega)⟩, fun z => by have q : tabS g (defScope s_Part_init_d) = false := (by kernel_rfl); exact absurd (q.symm.trans z) (by decide)⟩
theorem ok_Part_number : TxD.Ok g T.lams tx_Part_number := ⟨⟨rfl, rfl, rfl, by decide +kernel, rfl, by decide +kernel, by decide +kernel⟩, by kernel_rfl, rfl, fun _ _ _ _ _ _ _ us hl => match us, hl with | [_], _ => rfl, fun z => absurd rfl z, fun z => by have q : tabS g (defScope s_Part_number) = false := (by kernel_rfl); exact absurd (q.symm.trans z) (by decide)⟩
theorem ok_Part_under : TxD.Ok g T.lams tx_Part_under := ⟨⟨rfl, rfl, rfl, by decide +kernel, rfl, by decide +kernel, by decide +kernel⟩, by kernel_rfl, rfl, fun _ _ _ _ _ _ _ us hl => match us, hl with | [_], _ => rfl, fun z => absurd rfl z, fun z => by have q : tabS g (defScope s_Part_under) = false := (by kernel_rfl); exact absurd (q.symm.trans z) (by decide)⟩
theorem ok_Part_text : TxD.Ok g T.lams tx_Part_text := ⟨⟨rfl, rfl, rfl, by decide +kernel, rfl, by decide +kernel, by decide +kernel⟩, by kernel_rfl, rfl, fun _ _ _ _ _ _ _ us hl => match us, hl with | [_], _ => rfl, fun z => absurd rfl z, fun z => by have q : tabS g (defScope s_Part_text) = false := (by kernel_rfl); exact absurd (q.symm.trans z) (by decide)⟩
theorem ok_Part_of : TxD.Ok g T.lams tx_Part_of := ⟨⟨rfl, rfl, rfl, by decide +kernel, rfl, by decide +kernel, by decide +kernel⟩, by kernel_rfl, rfl, fun _ _ _ _ _ _ _ us hl => match us, hl with | [_], _ => rfl, fun z => absurd rfl z, fun z => by have q : tabS g (defScope s_Part_of) = false := (by kernel_rfl); exact absurd (q.symm.trans z) (by decide)⟩
theorem ok_Part_repr_d : TxD.Ok g T.lams tx_Part_repr_d := ⟨⟨rfl, rfl, rfl, by decide +kernel, rfl, by decide +kernel, by decide +kernel⟩, by kernel_rfl, rfl, fun _ _ _ _ _ _ _ us hl => match us, hl with | [_], _ => rfl, fun z => absurd rfl z, fun z => by have q : tabS g (defScope s_Part_repr_d) = false := (by kernel_rfl); exact absurd (q.symm.trans z) (by decide)⟩
theorem ok_Part_eq_d : TxD.Ok g T.lams tx_Part_eq_d := ⟨⟨rfl, rfl, rfl, by decide +kernel, rfl, by decide +kernel, by decide +kernel⟩, by kernel_rfl, rfl, fun _ _ _ _ _ _ _ us hl => match us, hl with | [_, _], _ => rfl, fun z => absurd rfl z, fun z => by have q : tabS g (defScope s_Part_eq_d) = false := (by kernel_rfl); exact absurd (q.symm.trans z) (by decide)⟩
theorem ok_Part_lt_d : TxD.Ok g T.lams tx_Part_lt_d := ⟨⟨rfl, rfl, rfl, by decide +kernel, rfl, by decide +kernel, by decide +kernel⟩, by kernel_rfl, rfl, fun _ _ _ _ _ _ _ us hl => match us, hl with | [_, _], _ => rfl, fun z => absurd rfl z, fun z => by have q : tabS g (defScope s_Part_lt_d) = false := (by kernel_rfl); exact absurd (q.symm.trans z) (by decide)⟩
theorem ok_Part_le_d : TxD.Ok g T.lams tx_Part_le_d := ⟨⟨rfl, rfl, rfl, by decide +kernel, rfl, by decide +kernel, by decide +kernel⟩, by kernel_rfl, rfl, fun _ _ _ _ _ _ _ us hl => match us, hl with | [_, _], _ => rfl, fun z => absurd rfl z, fun z => by have q : tabS g (defScope s_Part_le_d) = false := (by kernel_rfl); exact absurd (q.symm.trans z) (by decide)⟩
theorem ok_Part_gt_d : TxD.Ok g T.lams tx_Part_gt_d := ⟨⟨rfl, rfl, rfl, by decide +kernel, rfl, by decide +kernel, by decide +kernel⟩, by kernel_rfl, rfl, fun _ _ _ _ _ _ _ us hl => match us, hl with | [_, _], _ => rfl, fun z => absurd rfl z, fun z => by have q : tabS g (defScope s_Part_gt_d) = false := (by kernel_rfl); exact absurd (q.symm.trans z) (by decide)⟩
theorem ok_Part_ge_d : TxD.Ok g T.lams tx_Part_ge_d := ⟨⟨rfl, rfl, rfl, by decide +kernel, rfl, by decide +kernel, by decide +kernel⟩, by kernel_rfl, rfl, fun _ _ _ _ _ _ _ us hl => match us, hl with | [_, _], _ => rfl, fun z => absurd rfl z, fun z => by have q : tabS g (defScope s_Part_ge_d) = false := (by kernel_rfl); exact absurd (q.symm.trans z) (by decide)⟩
theorem ok_Part_neg_d : TxD.Ok g T.lams tx_Part_neg_d := ⟨⟨rfl, rfl, rfl, by decide +kernel, rfl, by decide +kernel, by decide +kernel⟩, by kernel_rfl, rfl, fun _ _ _ _ _ _ _ us hl => match us, hl with | [_], _ => rfl, fun z => absurd rfl z, fun z => by have q : tabS g (defScope s_Part_neg_d) = false := (by kernel_rfl); exact absurd (q.symm.trans z) (by decide)⟩
theorem ok_Part_add_d : TxD.Ok g T.lams tx_Part_add_d := ⟨⟨rfl, rfl, rfl, by decide +kernel, rfl, by decide +kernel, by decide +kernel⟩, by kernel_rfl, rfl, fun _ _ _ _ _ _ _ us hl => match us, hl with | [_, _], _ => rfl, fun z => absurd rfl z, fun z => by have q : tabS g (defScope s_Part_add_d) = false := (by kernel_rfl); exact absurd (q.symm.trans z) (by decide)⟩
theorem ok_Part_radd_d : TxD.Ok g T.lams tx_Part_radd_d := ⟨⟨rfl, rfl, rfl, by decide +kernel, rfl, by decide +kernel, by decide +kernel⟩, by kernel_rfl, rfl, fun _ _ _ _ _ _ _ us hl => match us, hl with | [_, _], _ => rfl, fun z => absurd rfl z, fun z => by have q : tabS g (defScope s_Part_radd_d) = false := (by kernel_rfl); exact absurd (q.symm.trans z) (by decide)⟩
theorem ok_Part_sub_d : TxD.Ok g T.lams tx_Part_sub_d := ⟨⟨rfl, rfl, rfl, by decide +kernel, rfl, by decide +kernel, by decide +kernel⟩, by kernel_rfl, rfl, fun _ _ _ _ _ _ _ us hl => match us, hl with | [_, _], _ => rfl, fun z => absurd rfl z, fun z => by have q : tabS g (defScope s_Part_sub_d) = false := (by kernel_rfl); exact absurd (q.symm.trans z) (by decide)⟩
theorem ok_Part_rsub_d : TxD.Ok g T.lams tx_Part_rsub_d := ⟨⟨rfl, rfl, rfl, by decide +kernel, rfl, by decide +kernel, by decide +kernel⟩, by kernel_rfl, rfl, fun _ _ _ _ _ _ _ us hl => match us, hl with | [_, _], _ => rfl, fun z => absurd rfl z, fun z => by have q : tabS g (defScope s_Part_rsub_d) = false := (by kernel_rfl); exact absurd (q.symm.trans z) (by decide)⟩
theorem ok_Part_mul_d : TxD.Ok g T.lams tx_Part_mul_d := ⟨⟨rfl, rfl, rfl, by decide +kernel, rfl, by decide +kernel, by decide +kernel⟩, by kernel_rfl, rfl, fun _ _ _ _ _ _ _ us hl => match us, hl with | [_, _], _ => rfl, fun z => absurd rfl z, fun z => by have q : tabS g (defScope s_Part_mul_d) = false := (by kernel_rfl); exact absurd (q.symm.trans z) (by decide)⟩
theorem ok_Part_rmul_d : TxD.Ok g T.lams tx_Part_rmul_d := ⟨⟨rfl, rfl, rfl, by decide +kernel, rfl, by decide +kernel, by decide +kernel⟩, by kernel_rfl, rfl, fun _ _ _ _ _ _ _ us hl => match us, hl with | [_, _], _ => rfl, fun z => absurd rfl z, fun z => by have q : tabS g (defScope s_Part_rmul_d) = false := (by kernel_rfl); exact absurd (q.symm.trans z) (by decide)⟩
theorem ok_all : ∀ t ∈ T.tx, t.Ok T.g T.lams := by
  intro t ht
  have ht : t ∈ ([tx_law, tx_Part_add_d, tx_Part_eq_d, tx_Part_ge_d, tx_Part_gt_d, tx_Part_init_d, tx_Part_le_d, tx_Part_lt_d, tx_Part_mul_d, tx_Part_neg_d, tx_Part_radd_d, tx_Part_repr_d, tx_Part_rmul_d, tx_Part_rsub_d, tx_Part_sub_d, tx__law_cells, tx__law_pot, tx__law_right, tx__law_take, tx_as_part, tx_common, tx_gap, tx_is_integer, tx_is_number, tx_joined, tx_multiplied, tx_Part_text, tx_is_whole, tx_part_in, tx__law_of, tx__law_pair, tx__law_part_text, tx__law_odd, tx__law_made, tx_Part_number, tx_Part_under, tx__law_fraction_in, tx__law_spoilt, tx__law_whole, tx_Part_of] : List TxD) := ht
  simp only [List.mem_cons, List.not_mem_nil, or_false] at ht
  rcases ht with rfl | rfl | rfl | rfl | rfl | rfl | rfl | rfl | rfl | rfl | rfl | rfl | rfl | rfl | rfl | rfl | rfl | rfl | rfl | rfl | rfl | rfl | rfl | rfl | rfl | rfl | rfl | rfl | rfl | rfl | rfl | rfl | rfl | rfl | rfl | rfl | rfl | rfl | rfl | rfl
  · exact ok_law
  · exact ok_Part_add_d
  · exact ok_Part_eq_d
  · exact ok_Part_ge_d
  · exact ok_Part_gt_d
  · exact ok_Part_init_d
  · exact ok_Part_le_d
  · exact ok_Part_lt_d
  · exact ok_Part_mul_d
  · exact ok_Part_neg_d
  · exact ok_Part_radd_d
  · exact ok_Part_repr_d
  · exact ok_Part_rmul_d
  · exact ok_Part_rsub_d
  · exact ok_Part_sub_d
  · exact ok__law_cells
  · exact ok__law_pot
  · exact ok__law_right
  · exact ok__law_take
  · exact ok_as_part
  · exact ok_common
  · exact ok_gap
  · exact ok_is_integer
  · exact ok_is_number
  · exact ok_joined
  · exact ok_multiplied
  · exact ok_Part_text
  · exact ok_is_whole
  · exact ok_part_in
  · exact ok__law_of
  · exact ok__law_pair
  · exact ok__law_part_text
  · exact ok__law_odd
  · exact ok__law_made
  · exact ok_Part_number
  · exact ok_Part_under
  · exact ok__law_fraction_in
  · exact ok__law_spoilt
  · exact ok__law_whole
  · exact ok_Part_of
theorem tt : ∀ d E, T.told = some (d, E) → ToldT T d E := by
  intro d E e
  cases e
  exact ⟨"_law_look", "_law_caught", "_law_back", "error", rfl, rfl, rfl, rfl, rfl, ⟨rfl, rfl, rfl, by decide +kernel, rfl, by decide +kernel, by decide +kernel⟩, by decide +kernel, by decide +kernel, by decide +kernel, ⟨_, _, _, _, _, _, _, _, _, _, _, _, _, _, _, _, _, _, _, _, _, _, _, _, _, _, rfl⟩, fun _ _ _ _ _ _ us hl => match us, hl with | [_], _ => rfl⟩
theorem ti : InitT T.iI := ⟨⟨_, _, _, _, _, _, _, _, _, _, _, _, _, rfl, fun _ _ _ _ _ _ _ _ _ => rfl, ⟨_, rfl, rfl⟩, by decide +kernel, rfl, rfl, rfl, by decide +kernel, by decide +kernel, by decide +kernel, by decide +kernel, by decide +kernel⟩⟩
theorem c1 : glB T.g = true := by kernel_rfl
theorem c2 : fnB T = true := by kernel_rfl
theorem c3 : clB T = true := by kernel_rfl
theorem c4 : erB T = true := by kernel_rfl
end Lw

set_option Elab.async false
set_option linter.all false
set_option maxRecDepth 100000
set_option maxHeartbeats 1000000
/-! L1: what all laws have: the pot and its draws. -/
namespace Mi
open PySem L2
def takeB (A B C D : Int) : List IS := [.iff (.cmp .Gt (.ix (.var 0) (.cst (.int 0))) (.cst (.int 0))) [.asg (.nm 4) (.bin .Mod (.blt .int [(.ix (.var 0) (.cst (.int 0)))]) (.var 1)), .sub (.var 0) (.cst (.int 0)) (.bin .FloorDiv (.ix (.var 0) (.cst (.int 0))) (.var 1)), .ret (some (.var 4))] [], .sub (.var 0) (.cst (.int 2)) (.bin .Add (.ix (.var 0) (.cst (.int 2))) (.cst (.int 1))), .asg (.nm 2) (.ix (.ls [(.cst (.int 2147483647)), (.cst (.int 2147483629)), (.cst (.int 2147483587)), (.cst (.int 2147483579)), (.cst (.int 2147483563))]) (.bin .Mod (.blt .int [(.ix (.var 0) (.cst (.int 2)))]) (.cst (.int 5)))), .asg (.nm 3) (.bin .Mod (.blt .int [(.bin .Pow (.blt .int [(.bin .Add (.bin .Add (.ix (.var 0) (.cst (.int 1))) (.bin .Mult (.bin .Mult (.cst (.int A)) (.ix (.var 0) (.cst (.int 2)))) (.ix (.var 0) (.cst (.int 2))))) (.cst (.int B)))]) (.cst (.int 3)))]) (.var 2)), .asg (.nm 3) (.bin .Mod (.blt .int [(.bin .Mult (.var 3) (.bin .Add (.bin .Mod (.blt .int [(.var 3)]) (.cst (.int C))) (.bin .Mult (.cst (.int D)) (.ix (.var 0) (.cst (.int 2))))))]) (.cst (.int 2305843009213693907))), .ret (some (.bin .Mod (.blt .int [(.bin .FloorDiv (.var 3) (.cst (.int 151)))]) (.var 1)))]
/-- a pot from which at most n were drawn -/
def Pot (h : LH) (p n : Nat) : Prop := ∃ a b c : Int, h[p]? = some (.lst [.int a, .int b, .int c]) ∧ 0 ≤ b ∧ b < 2 ^ 61 ∧ 0 ≤ c ∧ c ≤ n
/-- all but the thing at p stays -/
def Kp (p : Nat) (h h' : LH) : Prop := h.length ≤ h'.length ∧ ∀ q o, q ≠ p → h[q]? = some o → h'[q]? = some o
theorem Kp.refl (p : Nat) (h : LH) : Kp p h h := ⟨Nat.le_refl _, fun _ _ _ e => e⟩
theorem Kp.trans {p : Nat} {h h1 h2 : LH} (a : Kp p h h1) (b : Kp p h1 h2) : Kp p h h2 := ⟨Nat.le_trans a.1 b.1, fun q o n e => b.2 q o n (a.2 q o n e)⟩
theorem Kp.app (p : Nat) (h l : LH) : Kp p h (h ++ l) := ⟨by simp, fun q o _ e => by rw [List.getElem?_append_left (List.getElem?_eq_some_iff.mp e).1]; exact e⟩
theorem Kp.set (p : Nat) (h : LH) (o : Ob) : Kp p h (h.set p o) := ⟨by simp, fun q o' n e => by rw [List.getElem?_set_ne (Ne.symm n)]; exact e⟩
theorem at_app {h l : LH} {q : Nat} {o : Ob} (e : h[q]? = some o) : (h ++ l)[q]? = some o := by rw [List.getElem?_append_left (List.getElem?_eq_some_iff.mp e).1]; exact e
theorem at_end {h : LH} {o : Ob} : (h ++ [o])[h.length]? = some o := by simp
theorem Pot.app {h l : LH} {p n : Nat} (a : Pot h p n) : Pot (h ++ l) p n := by
  obtain ⟨a, b, c, e, r⟩ := a
  exact ⟨a, b, c, at_app e, r⟩
theorem Pot.more {h : LH} {p n m : Nat} (a : Pot h p n) (hn : n ≤ m) : Pot h p m := by
  obtain ⟨a, b, c, e, h1, h2, h3, h4⟩ := a
  exact ⟨a, b, c, e, h1, h2, h3, by omega⟩
theorem Pot.lt {h : LH} {p n : Nat} (a : Pot h p n) : p < h.length := by
  obtain ⟨a, b, c, e, _⟩ := a
  exact (List.getElem?_eq_some_iff.mp e).1
/-! ### values -/
theorem log_lt {i : Int} {k : Nat} (h0 : 0 ≤ i) (h : i < 2 ^ k) (hk : 0 < k) : i.natAbs.log2 < k := by
  have h1 : i.natAbs < 2 ^ k := by
    have : ((i.natAbs : Nat) : Int) = i := Int.natAbs_of_nonneg h0
    have h2 : ((i.natAbs : Nat) : Int) < ((2 ^ k : Nat) : Int) := by rw [this]; push_cast; exact h
    exact Int.ofNat_lt.mp h2
  by_cases hz : i.natAbs = 0
  · rw [hz]; exact hk
  · exact (Nat.log2_lt hz).mpr h1
theorem v_ix {h : LH} {p : Nat} {xs : List Val} {i : Int} {v : Val} (hp : h[p]? = some (.lst xs)) (e : atI xs i = some v) : vIx (.loc p) (.int i) h = .ok v h := by
  unfold vIx
  dsimp only
  rw [hp]
  dsimp only
  rw [e]
  rfl
theorem v_set {h : LH} {p : Nat} {xs : List Val} {i : Int} {j : Nat} {v : Val} (hp : h[p]? = some (.lst xs)) (e : ixN xs.length i = some j) : vSet (.loc p) (.int i) v h = some (h.set p (.lst (xs.set j v))) := by
  unfold vSet
  dsimp only
  rw [hp]
  dsimp only
  rw [e]
  rfl
theorem v_mod {h : LH} {i j : Int} (hj : j ≠ 0) : vBin .Mod (.int i) (.int j) h = .ok (.int (i.fmod j)) h := by
  show chk (decide (j ≠ 0)) _ = _
  rw [decide_eq_true hj]
  rfl
theorem v_div {h : LH} {i j : Int} (hj : j ≠ 0 ∧ j.natAbs.log2 < 9000) : vBin .FloorDiv (.int i) (.int j) h = .ok (.int (i.fdiv j)) h := by
  show chk (decide (j ≠ 0 ∧ j.natAbs.log2 < 9000)) _ = _
  rw [decide_eq_true hj]
  rfl
theorem v_add {h : LH} {i j : Int} : vBin .Add (.int i) (.int j) h = .ok (.int (i + j)) h := rfl
theorem v_mul {h : LH} {i j : Int} (hi : i.natAbs.log2 < 100000) (hj : j.natAbs.log2 < 100000) : vBin .Mult (.int i) (.int j) h = .ok (.int (i * j)) h := by
  show chk (decide (i.natAbs.log2 + j.natAbs.log2 < 1000000)) _ = _
  rw [decide_eq_true (by omega)]
  rfl
theorem v_pow3 {h : LH} {i : Int} (hi : i.natAbs.log2 < 100000) : vBin .Pow (.int i) (.int 3) h = .ok (.int (i ^ 3)) h := by
  have e : decide (0 ≤ (3 : Int) ∧ (i.natAbs.log2 + 1 : Int) * 3 ≤ 2 ^ 27) = true := decide_eq_true ⟨by omega, by omega⟩
  unfold vBin vPow
  dsimp only
  rw [e]
  rfl
def primes : List Val := [.int 2147483647, .int 2147483629, .int 2147483587, .int 2147483579, .int 2147483563]
theorem prime_at (c : Int) : ∃ q : Int, atI primes (c.fmod 5) = some (.int q) ∧ 0 < q ∧ q < 2 ^ 31 := by
  have h1 : 0 ≤ c.fmod 5 := Int.fmod_nonneg_of_pos c (by omega)
  have h2 : c.fmod 5 < 5 := Int.fmod_lt_of_pos c (by omega)
  generalize c.fmod 5 = m at h1 h2
  have : m = 0 ∨ m = 1 ∨ m = 2 ∨ m = 3 ∨ m = 4 := by omega
  rcases this with rfl | rfl | rfl | rfl | rfl
  · exact ⟨_, rfl, by omega, by omega⟩
  · exact ⟨_, rfl, by omega, by omega⟩
  · exact ⟨_, rfl, by omega, by omega⟩
  · exact ⟨_, rfl, by omega, by omega⟩
  · exact ⟨_, rfl, by omega, by omega⟩
theorem hd_by {α : Type} {r : Res α} {v : α} {h : LH} {Q : α → LH → Prop} {E : EP} (e : r = .ok v h) (k : Q v h) : Hd r Q E := by rw [e]; exact k
theorem ow_by {G : Prg} {d : Nat} {o : Option (Nat × List Val)} {x : Res Val} {h h1 : LH} {v : Val} {Q : Val → LH → Prop} {E : EP} (e : x = .ok v h1) (k : Q v h1) (ho : o = none := by rfl) : wOwn G d o x h Q E := by subst ho; exact hd_by e k
theorem ne_by {G : Prg} {d : Nat} {u y : Val} {h h1 : LH} {v : Val} {Q : Val → LH → Prop} {E : EP} (e : vCmp .NotEq u y h = .ok v h1) (k : Q v h1) (ho : sameC u y h = false := by rfl) : wNe G d u y h Q E := by
  unfold wNe
  have z : neO G .NotEq u y h = none := by
    unfold neO
    rw [ho]
  rw [z]
  exact hd_by e k
theorem log_mul {i j : Int} {k l : Nat} (hi : 0 ≤ i) (hi2 : i < 2 ^ k) (hj : 0 ≤ j) (hj2 : j < 2 ^ l) : 0 ≤ i * j ∧ i * j < 2 ^ (k + l) := by
  refine ⟨Int.mul_nonneg hi hj, ?_⟩
  rw [Int.pow_add]
  exact Int.mul_lt_mul' (Int.le_of_lt hi2) hj2 hj (Int.pow_pos (by omega))
section
variable {G : Prg} {d kt : Nat} {A B C D : Int}
theorem x_take {h : LH} {p n : Nat} {u : Int} {E : EP} (hG : G.defs[kt]? = some ⟨2, 5, takeB A B C D, []⟩) (hA : 0 ≤ A ∧ A < 2 ^ 60) (hB : 0 ≤ B ∧ B < 2 ^ 60) (hC : 0 < C ∧ C < 2 ^ 60) (hD : 0 ≤ D ∧ D < 2 ^ 60) (hp : Pot h p n) (hn : n < 2 ^ 60) (hu : 0 < u) (hu2 : u < 2 ^ 60) :
    XC G d kt [.loc p, .int u] h (fun v h' => ∃ r : Int, v = .int r ∧ 0 ≤ r ∧ r < u ∧ Pot h' p (n + 1) ∧ Kp p h h') E := by
  obtain ⟨a, b, c, e, hb1, hb2, hc1, hc2⟩ := hp
  have hlt : p < h.length := (List.getElem?_eq_some_iff.mp e).1
  refine xc hG rfl ?_
  simp only [takeB, wS, wS1, w, wL, ttr, tbl, List.map_cons, List.map_nil, List.cons_append, List.nil_append, List.getElem?_cons_zero, List.getElem?_cons_succ]
  by_cases ha : 0 < a
  · have ga : vCmp .Gt (.int a) (.int 0) h = .ok (.bl true) h := by
      show Res.ok (Val.bl (decide (0 < a))) h = _
      rw [decide_eq_true ha]
    refine ⟨rfl, hd_by (v_ix e rfl) ⟨rfl, ow_by ga ⟨rfl, hd_by (v_ix e rfl) (hd_by (v := .int a) rfl (ow_by (v_mod (by omega)) ⟨rfl, hd_by (v_ix e rfl) (ow_by (v_div ⟨by omega, ?_⟩) ⟨rfl, ?_⟩)⟩))⟩⟩⟩
    · exact Nat.lt_of_lt_of_le (log_lt (k := 60) (by omega) hu2 (by omega)) (by omega)
    · rw [v_set e (j := 0) rfl]
      refine ⟨_, rfl, Int.fmod_nonneg_of_pos a hu, Int.fmod_lt_of_pos a hu, ⟨_, b, c, List.getElem?_set_self hlt, hb1, hb2, hc1, by omega⟩, Kp.set p h _⟩
  · have ga : vCmp .Gt (.int a) (.int 0) h = .ok (.bl false) h := by
      show Res.ok (Val.bl (decide (0 < a))) h = _
      rw [decide_eq_false ha]
    refine ⟨rfl, hd_by (v_ix e rfl) ⟨rfl, ow_by ga ⟨rfl, hd_by (v_ix e rfl) ⟨rfl, ow_by v_add ⟨rfl, ?_⟩⟩⟩⟩⟩
    rw [v_set e (j := 2) rfl]
    obtain ⟨h1, e1⟩ : ∃ h1, h1 = h.set p (.lst [.int a, .int b, .int (c + 1)]) := ⟨_, rfl⟩
    have hp1 : h1[p]? = some (.lst [.int a, .int b, .int (c + 1)]) := by rw [e1]; exact List.getElem?_set_self hlt
    have ec : ([Val.int a, .int b, .int c].set 2 (.int (c + 1))) = [.int a, .int b, .int (c + 1)] := rfl
    rw [ec, ← e1]
    obtain ⟨h2, e2⟩ : ∃ h2, h2 = h1 ++ [Ob.lst primes] := ⟨_, rfl⟩
    have hp2 : h2[p]? = some (.lst [.int a, .int b, .int (c + 1)]) := by rw [e2]; exact at_app hp1
    have hq : h2[h1.length]? = some (.lst primes) := by rw [e2]; exact at_end
    obtain ⟨q, eq, q1, q2⟩ := prime_at (c + 1)
    show _ ∧ _ ∧ _ ∧ _ ∧ _ ∧ _ ∧ _ ∧ Hd (vIx (.loc p) (.int 2) (h1 ++ [Ob.lst primes])) _ _
    rw [← e2]
    have hc3 : c + 1 < 2 ^ 61 := by omega
    have m1 := log_mul (i := A) (j := c + 1) (k := 60) (l := 61) hA.1 hA.2 (by omega) hc3
    have m2 := log_mul (k := 60 + 61) (l := 61) m1.1 m1.2 (by omega : 0 ≤ c + 1) hc3
    have lA := log_lt (k := 60) hA.1 hA.2 (by omega)
    have lc := log_lt (k := 61) (by omega : 0 ≤ c + 1) hc3 (by omega)
    have l1 := log_lt m1.1 m1.2 (by omega)
    have hs0 : 0 ≤ b + A * (c + 1) * (c + 1) + B := by
      have := m2.1
      omega
    have hs1 : b + A * (c + 1) * (c + 1) + B < 2 ^ 200 := by
      have := m2.2
      have := hB.2
      omega
    have ls := log_lt hs0 hs1 (by omega)
    refine ⟨rfl, rfl, rfl, rfl, rfl, by decide, rfl, hd_by (v_ix hp2 rfl) (hd_by (v := .int (c + 1)) rfl ⟨rfl, ow_by (v_mod (by omega)) (hd_by (v_ix hq eq) ⟨rfl, hd_by (v_ix hp2 rfl) ⟨rfl, rfl, hd_by (v_ix hp2 rfl) (ow_by (v_mul (by omega) (by omega)) ⟨rfl, hd_by (v_ix hp2 rfl) (ow_by (v_mul (by omega) (by omega)) (ow_by v_add ⟨rfl, ow_by v_add (hd_by (v := .int (b + A * (c + 1) * (c + 1) + B)) rfl ⟨rfl, ?_⟩)⟩))⟩)⟩⟩)⟩)⟩
    have lS : (b + A * (c + 1) * (c + 1) + B).natAbs.log2 < 100000 := by omega
    generalize b + A * (c + 1) * (c + 1) + B = S at lS ⊢
    have hP := v_pow3 (h := h2) lS
    generalize S ^ 3 = T at hP
    rw [hP]
    refine ow_by rfl (hd_by (v := .int T) rfl (ow_by (v_mod (by omega)) ?_))
    have hm0 : 0 ≤ T.fmod q := Int.fmod_nonneg_of_pos _ q1
    have hm1 : T.fmod q < 2 ^ 31 := Int.lt_trans (Int.fmod_lt_of_pos _ q1) q2
    generalize T.fmod q = m at hm0 hm1 ⊢
    have hk0 : 0 ≤ m.fmod C := Int.fmod_nonneg_of_pos _ hC.1
    have hk1 : m.fmod C < 2 ^ 60 := Int.lt_trans (Int.fmod_lt_of_pos _ hC.1) hC.2
    have m3 := log_mul (k := 60) (l := 61) hD.1 hD.2 (by omega : 0 ≤ c + 1) hc3
    have lD := log_lt (k := 60) hD.1 hD.2 (by omega)
    have lm := log_lt (k := 31) hm0 hm1 (by omega)
    have lt := log_lt (i := m.fmod C + D * (c + 1)) (k := 122) (by have := m3.1; omega) (by have := m3.2; omega) (by omega)
    show Hd (vBi .int [.int m] h2) _ _
    refine hd_by (v := .int m) rfl ⟨rfl, ow_by (v_mod (by omega)) ⟨rfl, rfl, hd_by (v_ix hp2 rfl) (ow_by (v_mul (by omega) (by omega)) (ow_by v_add (ow_by (v_mul (by omega) (by omega)) (hd_by (v := .int _) rfl ⟨rfl, ow_by (v_mod (by omega)) ⟨rfl, ow_by (v_div ⟨by omega, by decide⟩) (hd_by (v := .int _) rfl (ow_by (v_mod (by omega)) ⟨_, rfl, Int.fmod_nonneg_of_pos _ hu, Int.fmod_lt_of_pos _ hu, ⟨a, b, c + 1, hp2, hb1, hb2, by omega, by omega⟩, ?_⟩))⟩⟩))))⟩⟩
    rw [e2, e1]
    exact (Kp.set p h _).trans (Kp.app p _ _)
end
end Mi

set_option Elab.async false
set_option linter.all false
set_option maxRecDepth 100000
set_option maxHeartbeats 1000000
/-! L2: a drawn item, the pot itself, the cells, the law's end. -/
namespace Mi
open PySem L2
section
variable {G : Prg} {d kt ko : Nat} {A B C D : Int}
/-- the constants of a draw -/
structure TkOk (G : Prg) (kt : Nat) (A B C D : Int) : Prop where
  at_ : G.defs[kt]? = some ⟨2, 5, takeB A B C D, []⟩
  a : 0 ≤ A ∧ A < 2 ^ 60
  b : 0 ≤ B ∧ B < 2 ^ 60
  c : 0 < C ∧ C < 2 ^ 60
  d : 0 ≤ D ∧ D < 2 ^ 60
theorem x_tk (T : TkOk G kt A B C D) {h : LH} {p n : Nat} {u : Int} {E : EP} (hp : Pot h p n) (hn : n < 2 ^ 60) (hu : 0 < u) (hu2 : u < 2 ^ 60) {Q : Val → LH → Prop} (k : ∀ (r : Int) (h' : LH), 0 ≤ r → r < u → Pot h' p (n + 1) → Kp p h h' → Q (.int r) h') :
    XC G d kt [.loc p, .int u] h Q E := (x_take T.at_ T.a T.b T.c T.d hp hn hu hu2).monoQ fun v h' ⟨r, e, h1, h2, h3, h4⟩ => by rw [e]; exact k r h' h1 h2 h3 h4
theorem at_nat {xs : List Val} {r : Int} (h0 : 0 ≤ r) (h1 : r < xs.length) : ∃ v, atI xs r = some v ∧ v ∈ xs := by
  obtain ⟨k, rfl⟩ := Int.eq_ofNat_of_zero_le h0
  have hk : k < xs.length := by omega
  exact ⟨xs[k], atI_nat (List.getElem?_eq_getElem hk), List.getElem_mem hk⟩
def pickB (kt : Nat) : List IS := [.ret (some (.ix (.var 1) (.cal kt [(.var 0), (.blt .len [(.var 1)])])))]
theorem x_of (T : TkOk G kt A B C D) (hG : G.defs[ko]? = some ⟨2, 2, pickB kt, []⟩) {h : LH} {p q n : Nat} {xs : List Val} {E : EP} (hd : 1 ≤ d) (hp : Pot h p n) (hn : n < 2 ^ 60) (hq : h[q]? = some (.lst xs)) (hne : q ≠ p) (h0 : xs ≠ []) (hl : xs.length < 2 ^ 60) {Q : Val → LH → Prop}
    (k : ∀ (v : Val) (h' : LH), v ∈ xs → Pot h' p (n + 1) → Kp p h h' → Q v h') : XC G d ko [.loc p, .loc q] h Q E := by
  refine xc hG rfl ?_
  simp only [pickB, wS, wS1, w, wL, List.map_cons, List.map_nil, List.cons_append, List.nil_append, List.getElem?_cons_zero, List.getElem?_cons_succ]
  have hlen : 0 < xs.length := List.length_pos_iff.mpr h0
  refine ⟨hd, hd_by (v := .int xs.length) (h := h) ?_ ?_⟩
  · show ofO ((lenO (.loc q) h).map fun (n : Nat) => Val.int (n : Int)) h = _
    unfold lenO
    dsimp only
    rw [hq]
    rfl
  · refine x_tk T hp hn (by omega) (by omega) fun r h' h1 h2 h3 h4 => ?_
    obtain ⟨v, e, m⟩ := at_nat h1 h2
    exact hd_by (v_ix (h4.2 q _ hne hq) e) (k v h' m h3 h4)
/-! ### the pot -/
def potB (c1 c2 A B C : Int) : List IS := [.asg (.nm 2) (.ife (.cmp .Lt (.var 1) (.blt .len [(.var 0)])) (.ix (.var 0) (.var 1)) (.bin .Add (.bin .Mult (.cst (.int c1)) (.var 1)) (.cst (.int c2)))), .asg (.nm 3) (.bin .Mult (.bin .Mod (.blt .int [(.blt .abs [(.var 2)])]) (.bin .Pow (.bin .Pow (.cst (.int 10)) (.cst (.int 60))) (.cst (.int 5)))) (.blt .int [(.cmp .GtE (.blt .abs [(.var 2)]) (.bin .Pow (.cst (.int 10)) (.cst (.int 18))))])), .asg (.nm 4) (.bin .Mod (.blt .int [(.var 2)]) (.cst (.int 2305843009213693951))), .ret (some (.ls [(.var 3), (.bin .Mod (.blt .int [(.bin .Add (.bin .Add (.bin .Mult (.var 4) (.cst (.int A))) (.bin .Mult (.bin .Mult (.cst (.int B)) (.var 1)) (.var 1))) (.cst (.int C)))]) (.cst (.int 2305843009213693921))), (.cst (.int 0))]))]
structure PtOk (G : Prg) (kp : Nat) (c1 c2 A B C : Int) : Prop where
  at_ : G.defs[kp]? = some ⟨2, 5, potB c1 c2 A B C, []⟩
  c1 : 0 ≤ c1 ∧ c1 < 2 ^ 60
  a : 0 ≤ A ∧ A < 2 ^ 60
  b : 0 ≤ B ∧ B < 2 ^ 60
theorem v_pow {h : LH} {i j : Int} (hi : 0 ≤ j ∧ (i.natAbs.log2 + 1 : Int) * j ≤ 2 ^ 27) : vBin .Pow (.int i) (.int j) h = .ok (.int (i ^ j.toNat)) h := by
  unfold vBin vPow
  dsimp only
  rw [decide_eq_true hi]
  rfl
theorem x_pot {kp : Nat} {c1 c2 : Int} (T : PtOk G kp c1 c2 A B C) {h : LH} {ns : List Int} {k : Nat} {E : EP} (hk : k < 64) (hl : ns.length ≤ 63) {Q : Val → LH → Prop}
    (q : ∀ o, Pot (h ++ [o]) h.length 0 → Q (.loc h.length) (h ++ [o])) : XC G d kp [.cl (ns.map .int), .int k] h Q E := by
  refine xc T.at_ rfl ?_
  simp only [potB, wS, wS1, w, wL, tbl, List.map_cons, List.map_nil, List.cons_append, List.nil_append, List.getElem?_cons_zero, List.getElem?_cons_succ, bindT, List.length_cons, List.length_nil, Nat.reduceAdd, Nat.reduceSub, List.replicate, List.set_cons_zero, List.set_cons_succ]
  refine hd_by (v := .int ns.length) (h := h) ?_ (ow_by (v := .bl (decide ((k : Int) < ns.length))) (h := h) rfl ?_)
  · show ofO (some (Val.int ((ns.map Val.int).length : Int))) h = _
    rw [List.length_map]
    rfl
  · have hcell : ∃ c : Int, ∀ (P : Val → LH → Prop), P (.int c) h → (match decide ((k : Int) < ns.length) with
        | true => Hd (vIx (.cl (ns.map .int)) (.int k) h) P E
        | false => noLoc (.int c1) = true ∧ wOwn G d (ownO G (dunB .Mult) (.int c1) (.int k) h) (vBin .Mult (.int c1) (.int k) h) h (fun v h1 => noLoc (.int c2) = true ∧ wOwn G d (ownO G (dunB .Add) v (.int c2) h1) (vBin .Add v (.int c2) h1) h1 P E) E) := by
      by_cases hb : (k : Int) < ns.length
      · rw [decide_eq_true hb]
        have hk2 : k < ns.length := by omega
        refine ⟨ns[k], fun P z => hd_by ?_ z⟩
        show ofO (atI (ns.map Val.int) k) h = _
        rw [atI_nat (v := Val.int ns[k]) (by rw [List.getElem?_map, List.getElem?_eq_getElem hk2]; rfl)]
        rfl
      · rw [decide_eq_false hb]
        exact ⟨c1 * k + c2, fun P z => ⟨rfl, ow_by (v_mul (Nat.lt_trans (log_lt (k := 60) T.c1.1 T.c1.2 (by omega)) (by omega)) (Nat.lt_trans (log_lt (i := k) (k := 60) (by omega) (by omega) (by omega)) (by omega))) ⟨rfl, ow_by v_add z⟩⟩⟩
    obtain ⟨c, hc⟩ := hcell
    refine hc _ ?_
    obtain ⟨ca, eca⟩ : ∃ ca : Int, vBi .abs [.int c] h = .ok (.int ca) h := ⟨_, rfl⟩
    refine hd_by eca (hd_by (v := .int ca) rfl ⟨rfl, rfl, ow_by (v_pow (by decide +kernel)) ⟨rfl, ow_by (v_pow (by decide +kernel)) ?_⟩⟩)
    have hM : 0 < ((10 : Int) ^ (60 : Int).toNat) ^ (5 : Int).toNat ∧ ((10 : Int) ^ (60 : Int).toNat) ^ (5 : Int).toNat < 2 ^ 1000 := by decide +kernel
    generalize ((10 : Int) ^ (60 : Int).toNat) ^ (5 : Int).toNat = M at hM ⊢
    refine ow_by (v_mod (by omega)) (hd_by eca ⟨rfl, rfl, ow_by (v_pow (by decide +kernel)) ?_⟩)
    generalize (10 : Int) ^ (18 : Int).toNat = M2
    have ho0 : 0 ≤ ca.fmod M := Int.fmod_nonneg_of_pos _ hM.1
    have ho1 : ca.fmod M < 2 ^ 1000 := Int.lt_trans (Int.fmod_lt_of_pos _ hM.1) hM.2
    have lo := log_lt ho0 ho1 (by omega)
    obtain ⟨b1, eb1, lb1⟩ : ∃ b1 : Int, vBi .int [.bl (decide (ca ≥ M2))] h = .ok (.int b1) h ∧ b1.natAbs.log2 < 10 := by
      refine ⟨if decide (ca ≥ M2) then 1 else 0, rfl, ?_⟩
      split <;> decide
    refine ow_by (v := .bl (decide (ca ≥ M2))) (h := h) rfl (hd_by eb1 (ow_by (v_mul (by omega) (by omega)) (hd_by (v := .int c) rfl ⟨rfl, ow_by (v_mod (by omega)) ⟨rfl, ow_by (v_mul ?_ ?_) ⟨rfl, ow_by (v_mul ?_ ?_) (ow_by (v_mul ?_ ?_) (ow_by v_add ⟨rfl, ow_by v_add (hd_by (v := .int _) rfl ⟨rfl, ow_by (v_mod (by omega)) ⟨rfl, by decide, q _ ⟨_, _, _, at_end, Int.fmod_nonneg_of_pos _ (by omega), Int.lt_trans (Int.fmod_lt_of_pos _ (by omega)) (by omega), Int.le_refl _, by omega⟩⟩⟩)⟩))⟩⟩⟩)))
    · exact Nat.lt_trans (log_lt (k := 62) (Int.fmod_nonneg_of_pos _ (by omega)) (Int.lt_trans (Int.fmod_lt_of_pos _ (by omega)) (by omega)) (by omega)) (by omega)
    · exact Nat.lt_trans (log_lt (k := 60) T.a.1 T.a.2 (by omega)) (by omega)
    · exact Nat.lt_trans (log_lt (k := 60) T.b.1 T.b.2 (by omega)) (by omega)
    · exact Nat.lt_trans (log_lt (i := k) (k := 60) (by omega) (by omega) (by omega)) (by omega)
    · have m := log_mul (k := 60) (l := 60) T.b.1 T.b.2 (by omega : 0 ≤ (k : Int)) (by omega)
      exact Nat.lt_trans (log_lt m.1 m.2 (by omega)) (by omega)
    · exact Nat.lt_trans (log_lt (i := k) (k := 60) (by omega) (by omega) (by omega)) (by omega)
/-! ### the cells -/
def cellsB : List IS := [.ret (some (.lrg (.blt .max2 [(.cst (.int 1)), (.blt .min2 [(.var 1), (.blt .len [(.var 0)])])])))]
def rng0 (m : Nat) : List Val := (List.range m).map fun (i : Nat) => Val.int (i : Int)
theorem x_cells {kc : Nat} (hG : G.defs[kc]? = some ⟨2, 2, cellsB, []⟩) {h : LH} {ns : List Int} {l : Nat} {E : EP} (hl : ns.length ≤ 63) {Q : Val → LH → Prop}
    (q : ∀ m : Nat, 1 ≤ m → m ≤ max 1 l → m ≤ 63 → Q (.loc h.length) (h ++ [.lst (rng0 m)])) : XC G d kc [.cl (ns.map .int), .int l] h Q E := by
  refine xc hG rfl ?_
  simp only [cellsB, wS, wS1, w, wL, tbl, List.map_cons, List.map_nil, List.cons_append, List.nil_append, List.getElem?_cons_zero, List.getElem?_cons_succ, bindT, List.length_cons, List.length_nil, Nat.reduceAdd, Nat.reduceSub, List.replicate, List.set_cons_zero, List.set_cons_succ]
  refine ⟨rfl, hd_by (v := .int ns.length) (h := h) ?_ (hd_by (v := Val.int ((min l ns.length : Nat) : Int)) (h := h) ?_ (hd_by (v := Val.int ((max 1 (min l ns.length) : Nat) : Int)) (h := h) ?_ (And.intro (by omega) ?_)))⟩
  · show ofO (some (Val.int ((ns.map Val.int).length : Int))) h = _
    rw [List.length_map]
    rfl
  · show Res.ok (Val.int (if (ns.length : Int) < (l : Int) then (ns.length : Int) else (l : Int))) h = _
    congr 2
    split <;> omega
  · show Res.ok (Val.int (if ((min l ns.length : Nat) : Int) > 1 then ((min l ns.length : Nat) : Int) else 1)) h = _
    congr 2
    split <;> omega
  · exact q (max 1 (min l ns.length)) (by omega) (by omega) (by omega)
/-! ### the law's end: all([right(pot(script, place)) for place in cells(script, l)]) -/
def lawB (kp kc kr : Nat) (l : Int) : List IS := [.ret (some (.blt .all [(.lc (.nm 1) 0 [(.cal kc [(.var 0), (.cst (.int l))])] [] (.cal kr [(.cal kp [(.var 0), (.var 1)])]) [1])]))]
theorem bls_rep : ∀ n : Nat, blsOf (List.replicate n (.bl true)) = some (List.replicate n true)
  | 0 => rfl
  | n + 1 => by
    show (blsOf (List.replicate n (.bl true))).map (true :: ·) = _
    rw [bls_rep n]
    rfl
theorem x_law {kp kc kr kl : Nat} {c1 c2 : Int} (T : PtOk G kp c1 c2 A B C) (hc : G.defs[kc]? = some ⟨2, 2, cellsB, []⟩) {l : Nat} (hl : l ≤ 63) (hG : G.defs[kl]? = some ⟨1, 2, lawB kp kc kr l, []⟩) (hd : 1 ≤ d)
    (hr : ∀ (h : LH) (p : Nat), Pot h p 0 → XC G (d - 1) kr [.loc p] h (fun v h' => v = .bl true ∧ Kp p h h') noX) {ns : List Int} (hn : ns.length ≤ 63) : XC G d kl [.cl (ns.map .int)] [] (fun v _ => v = .bl true) noX := by
  refine xc hG rfl ?_
  simp only [lawB, wS, wS1, w, wL, tbl, List.map_cons, List.map_nil, List.cons_append, List.nil_append, List.getElem?_cons_zero, List.getElem?_cons_succ, bindT, List.length_cons, List.length_nil, Nat.reduceAdd, Nat.reduceSub, List.replicate, List.set_cons_zero, List.set_cons_succ]
  refine ⟨hd, rfl, x_cells hc hn fun m h1 h2 h3 => ⟨.seq (.loc 0), rfl, ?_⟩⟩
  show XLc G d (.nm 1) [] _ _ _ 0 1 _ [Ob.lst (rng0 m), .lst []] _ _
  refine xl_inv m (fun i h => h[0]? = some (.lst (rng0 m)) ∧ h[1]? = some (.lst (List.replicate i (.bl true)))) ⟨rfl, rfl⟩ (fun i h hi k => ?_) fun h k => ?_
  · have hit : (rng0 m)[i]? = some (.int i) := by
      unfold rng0
      rw [List.getElem?_map, List.getElem?_range hi]
      rfl
    refine ⟨.int i, [some (.cl (ns.map .int)), some (.int i)], ?_, rfl, ?_⟩
    · show (match seqL (.loc 0) h with
        | some xs => some xs[i]?
        | none => match seqT (.loc 0) with
          | some xs => some xs[i]?
          | none => none) = _
      unfold seqL
      dsimp only
      rw [k.1]
      dsimp only
      rw [hit]
    · simp only [w, wL, List.getElem?_cons_zero, List.getElem?_cons_succ]
      refine ⟨hd, hd, x_pot T (by omega) hn fun o hp => ?_⟩
      refine (hr _ _ hp).monoQ fun v h' ⟨ev, kk⟩ => ?_
      have l0 := (List.getElem?_eq_some_iff.mp k.1).1
      have l1 := (List.getElem?_eq_some_iff.mp k.2).1
      have k1 := kk.2 0 _ (by omega) (at_app k.1)
      have k2 := kk.2 1 _ (by omega) (at_app k.2)
      refine ⟨_, k2, ?_, ?_, ?_⟩
      · rw [List.length_replicate]
        exact Nat.lt_of_lt_of_le hi (Nat.le_trans h3 (by decide))
      · rw [List.getElem?_set_ne (by decide)]
        exact k1
      · rw [ev]
        rw [List.getElem?_set_self (List.getElem?_eq_some_iff.mp k2).1, ← List.replicate_succ']
  · refine ⟨?_, hd_by (v := Val.bl true) (h := h) ?_ rfl⟩
    · show (match seqL (.loc 0) h with
        | some xs => some xs[m]?
        | none => match seqT (.loc 0) with
          | some xs => some xs[m]?
          | none => none) = _
      unfold seqL
      dsimp only
      rw [k.1]
      dsimp only
      rw [List.getElem?_eq_none (by unfold rng0; simp)]
    · show (match (seqL (.loc 1) h).bind blsOf with
        | some bs => Res.ok (Val.bl (bs.all id)) h
        | none => .bad) = _
      unfold seqL
      dsimp only
      rw [k.2]
      show (match blsOf (List.replicate m (.bl true)) with
        | some bs => Res.ok (Val.bl (bs.all id)) h
        | none => .bad) = _
      rw [bls_rep]
      dsimp only
      congr 2
      simp
end
end Mi

set_option Elab.async false
set_option linter.all false
set_option maxRecDepth 100000
set_option maxHeartbeats 1000000
/-! LC: small facts for walks. -/
namespace Mi
open PySem L2
/-- nothing that stood is changed -/
def Xt (h h' : LH) : Prop := h.length ≤ h'.length ∧ ∀ (q : Nat) (o : Ob), h[q]? = some o → h'[q]? = some o
theorem Xt.kp {p : Nat} {h h' : LH} (x : Xt h h') : Kp p h h' := ⟨x.1, fun q o _ e => x.2 q o e⟩
theorem Xt.app (h l : LH) : Xt h (h ++ l) := ⟨by simp, fun q o e => at_app e⟩
theorem Xt.trans {h h1 h2 : LH} (a : Xt h h1) (b : Xt h1 h2) : Xt h h2 := ⟨Nat.le_trans a.1 b.1, fun q o e => b.2 q o (a.2 q o e)⟩
theorem v_ext {h : LH} {n m : Nat} {xs zs : List Val} (hn : h[n]? = some (.lst xs)) (hm : h[m]? = some (.lst zs)) (hl : xs.length + zs.length ≤ sizeLine) : vMt .extend (.loc n) [.loc m] h = .ok .non (h.set n (.lst (xs ++ zs))) := by
  unfold vMt
  dsimp only
  rw [hn, hm]
  dsimp only
  rw [decide_eq_true hl]
  rfl
def isLm : Mt → Bool
  | .append => true
  | .extend => true
  | .popAt => true
  | _ => false
theorem ok_lst {h : LH} {n : Nat} {xs : List Val} {m : Mt} (hn : h[n]? = some (.lst xs)) (hm : isLm m = true := by rfl) : okTy m (.loc n) h = true := by
  have e : (seqL (.loc n) h).isSome = true := by
    unfold seqL
    dsimp only
    rw [hn]
    rfl
  cases m <;> first | exact e | cases hm
theorem ap_at (h t : LH) (i : Nat) : (h ++ t)[h.length + i]? = t[i]? := by
  rw [List.getElem?_append_right (by omega), show h.length + i - h.length = i by omega]
theorem ap_at0 (h t : LH) : (h ++ t)[h.length]? = t[0]? := ap_at h t 0
theorem ap_set (h t : LH) (i : Nat) (o : Ob) : (h ++ t).set (h.length + i) o = h ++ t.set i o := by
  induction h with
  | nil => simp
  | cons a h ih =>
    show (a :: (h ++ t)).set (h.length + 1 + i) o = a :: (h ++ t.set i o)
    rw [show h.length + 1 + i = (h.length + i) + 1 by omega, List.set_cons_succ, ih]
theorem ap_set0 (h t : LH) (o : Ob) : (h ++ t).set h.length o = h ++ t.set 0 o := ap_set h t 0 o
theorem toR_lst {h : LH} {m n : Nat} {xs : List Val} (e : h[m]? = some (.lst xs)) : toR (n + 1) h (.loc m) = (mapO (toR n h) xs).map .list := by
  show (match h[m]? with
    | some (.lst xs) => (mapO (toR n h) xs).map PyData.list
    | some (.dK kvs) => (mapKv (toR n h) kvs).map .dict
    | _ => none) = _
  rw [e]
theorem toR_dK {h : LH} {m n : Nat} {xs : List (Key × Val)} (e : h[m]? = some (.dK xs)) : toR (n + 1) h (.loc m) = (mapKv (toR n h) xs).map .dict := by
  show (match h[m]? with
    | some (.lst xs) => (mapO (toR n h) xs).map PyData.list
    | some (.dK kvs) => (mapKv (toR n h) kvs).map .dict
    | _ => none) = _
  rw [e]
/-- what is younger stays -/
def Ky (k : Nat) (h h' : LH) : Prop := h.length ≤ h'.length ∧ ∀ (q : Nat) (o : Ob), k ≤ q → h[q]? = some o → h'[q]? = some o
theorem Ky.refl (k : Nat) (h : LH) : Ky k h h := ⟨Nat.le_refl _, fun _ _ _ e => e⟩
theorem Ky.trans {k : Nat} {h h1 h2 : LH} (a : Ky k h h1) (b : Ky k h1 h2) : Ky k h h2 := ⟨Nat.le_trans a.1 b.1, fun q o n e => b.2 q o n (a.2 q o n e)⟩
theorem Kp.ky {k p : Nat} {h h1 : LH} (a : Kp p h h1) (hk : p < k) : Ky k h h1 := ⟨a.1, fun q o n e => a.2 q o (by omega) e⟩
theorem Ky.up {k l : Nat} {h h1 : LH} (a : Ky k h h1) (hk : k ≤ l) : Ky l h h1 := ⟨a.1, fun q o n e => a.2 q o (by omega) e⟩
theorem Ky.set {k q : Nat} {h : LH} {o : Ob} (hq : q < k) : Ky k h (h.set q o) := ⟨by simp, fun r o' n e => by rw [List.getElem?_set_ne (by omega)]; exact e⟩
theorem Kp.setNew {p D : Nat} {h h1 : LH} {o : Ob} (a : Kp p h h1) (hD : h.length ≤ D) : Kp p h (h1.set D o) := ⟨by have := a.1; simpa using this, fun q o' n e => by
  have := (List.getElem?_eq_some_iff.mp e).1
  rw [List.getElem?_set_ne (by omega)]
  exact a.2 q o' n e⟩
theorem ne_str {s : Str} {h : LH} : vCmp .NotEq (.str s) (.str s) h = .ok (.bl false) h := by
  show ofB ((eqB (.str s) (.str s) h).map (!·)) h = _
  unfold eqB
  have e : scl (.str s) (.str s) = some true := by
    show some (decide (s = s)) = _
    simp
  rw [e]
  rfl
theorem toD_lst {h : LH} {m n : Nat} {xs : List Val} (e : h[m]? = some (.lst xs)) : toD (n + 1) h (.loc m) = (mapO (toD n h) xs).map .list := by
  show (match h[m]? with
    | some (.lst xs) => (mapO (toD n h) xs).map PyData.list
    | _ => none) = _
  rw [e]
theorem item_lst {h : LH} {q i : Nat} {xs : List Val} (e : h[q]? = some (.lst xs)) : item (.seq (.loc q)) i h = some xs[i]? := by
  show (match seqL (.loc q) h with
    | some xs => some xs[i]?
    | none => match seqT (.loc q) with
      | some xs => some xs[i]?
      | none => none) = _
  unfold seqL
  dsimp only
  rw [e]
theorem mk_lst {h : LH} {q : Nat} {xs : List Val} (e : h[q]? = some (.lst xs)) : mkSrc 0 [.loc q] h = some (.seq (.loc q)) := by
  have es : seqL (.loc q) h = some xs := by
    unfold seqL
    dsimp only
    rw [e]
  show (if ((seqL (.loc q) h).isSome || (seqT (.loc q)).isSome) then some (Src.seq (.loc q)) else none) = _
  rw [es]
  rfl
end Mi

set_option Elab.async false
set_option linter.all false
set_option maxRecDepth 100000
set_option maxHeartbeats 1000000
/-! Pa: fractions: what the defs of the program give. -/
namespace Mi
open PySem L2
/-! ### bounds -/
def Sm (k : Nat) (i : Int) : Prop := i.natAbs < 2 ^ k
theorem Sm.log {k : Nat} {i : Int} (s : Sm k i) (hk : 0 < k) : i.natAbs.log2 < k := by
  by_cases hz : i.natAbs = 0
  · rw [hz]; exact hk
  · exact (Nat.log2_lt hz).mpr s
theorem Sm.up {k l : Nat} {i : Int} (s : Sm k i) (h : k ≤ l) : Sm l i := Nat.lt_of_lt_of_le s (Nat.pow_le_pow_right (by omega) h)
theorem Sm.mul {k l : Nat} {i j : Int} (s : Sm k i) (t : Sm l j) : Sm (k + l) (i * j) := by
  unfold Sm at *
  rw [Int.natAbs_mul, Nat.pow_add]
  exact Nat.mul_lt_mul'' s t
theorem Sm.add {k : Nat} {i j : Int} (s : Sm k i) (t : Sm k j) : Sm (k + 1) (i + j) := by
  unfold Sm at *
  have := Int.natAbs_add_le i j
  rw [Nat.pow_succ]
  omega
theorem Sm.neg {k : Nat} {i : Int} (s : Sm k i) : Sm k (-i) := by
  unfold Sm at *
  rw [Int.natAbs_neg]
  exact s
theorem Sm.sub {k : Nat} {i j : Int} (s : Sm k i) (t : Sm k j) : Sm (k + 1) (i - j) := by
  rw [Int.sub_eq_add_neg]
  exact s.add t.neg
theorem Sm.one {k : Nat} (h : 0 < k) : Sm k 1 := Nat.one_lt_two_pow (by omega)
theorem v_mulS {h : LH} {i j : Int} {k l : Nat} (s : Sm k i) (t : Sm l j) (hk : 0 < k := by omega) (hl : 0 < l := by omega) (hkl : k + l ≤ 9000 := by omega) : vBin .Mult (.int i) (.int j) h = .ok (.int (i * j)) h := by
  have := s.log hk
  have := t.log hl
  exact v_mul (by omega) (by omega)
theorem v_divS {h : LH} {i j : Int} {l : Nat} (hj : j ≠ 0) (t : Sm l j) (hl : 0 < l := by omega) (hkl : l ≤ 9000 := by omega) : vBin .FloorDiv (.int i) (.int j) h = .ok (.int (i.fdiv j)) h := by
  have := t.log hl
  exact v_div ⟨hj, by omega⟩
/-! ### least terms -/
def sg (a b : Int) : Int := if b < 0 then -(Int.gcd a b : Int) else (Int.gcd a b : Int)
def nu (a b : Int) : Int := a.fdiv (sg a b)
def de (a b : Int) : Int := b.fdiv (sg a b)
/-- in least terms -/
def Lo (a b : Int) : Prop := 0 < b ∧ Int.gcd a b = 1
theorem sg_ne {a b : Int} (hb : b ≠ 0) : sg a b ≠ 0 := by
  have : Int.gcd a b ≠ 0 := fun z => hb (Int.gcd_eq_zero_iff.mp z).2
  unfold sg
  split <;> omega
theorem sg_dvd (a b : Int) : sg a b ∣ a ∧ sg a b ∣ b := by
  unfold sg
  split
  · exact ⟨Int.neg_dvd.mpr (Int.gcd_dvd_left ..), Int.neg_dvd.mpr (Int.gcd_dvd_right ..)⟩
  · exact ⟨Int.gcd_dvd_left .., Int.gcd_dvd_right ..⟩
theorem nu_mul (a b : Int) : sg a b * nu a b = a := by
  obtain ⟨c, hc⟩ := (sg_dvd a b).1
  unfold nu
  by_cases h : sg a b = 0
  · rw [h] at hc ⊢
    rw [hc]
    simp
  · exact Int.mul_fdiv_cancel' (sg_dvd a b).1
theorem de_mul (a b : Int) : sg a b * de a b = b := Int.mul_fdiv_cancel' (sg_dvd a b).2
theorem lo_nd {a b : Int} (hb : b ≠ 0) : Lo (nu a b) (de a b) := by
  have h1 := nu_mul a b
  have h2 := de_mul a b
  have hs := sg_ne (a := a) hb
  have hg : Int.gcd a b = (sg a b).natAbs := by unfold sg; split <;> simp
  constructor
  · unfold sg at *
    have hp : 0 < (Int.gcd a b : Int) := by
      have : Int.gcd a b ≠ 0 := fun z => hb (Int.gcd_eq_zero_iff.mp z).2
      omega
    generalize (Int.gcd a b : Int) = g at *
    rcases Int.lt_trichotomy (de a b) 0 with z | z | z
    · split at h2
      · have := Int.mul_pos_of_neg_of_neg (show -g < 0 by omega) z
        omega
      · have := Int.mul_neg_of_pos_of_neg hp z
        omega
    · rw [z] at h2
      simp at h2
      omega
    · exact z
  · have e : Int.gcd (sg a b * nu a b) (sg a b * de a b) = (sg a b).natAbs * Int.gcd (nu a b) (de a b) := Int.gcd_mul_left ..
    rw [h1, h2, hg] at e
    have hn : 0 < (sg a b).natAbs := by omega
    exact (Nat.mul_left_cancel hn (by rw [Nat.mul_one]; exact e)).symm
theorem lo_self {a b : Int} (h : Lo a b) : nu a b = a ∧ de a b = b := by
  have e : sg a b = 1 := by
    unfold sg
    have := h.1
    rw [if_neg (by omega), h.2]
    rfl
  unfold nu de
  rw [e]
  simp
theorem lo_one (a : Int) : Lo a 1 := ⟨by omega, by simp⟩
theorem sg_neg (a b : Int) : sg (-a) b = sg a b := by
  unfold sg
  rw [Int.neg_gcd]
theorem nd_neg {a b : Int} (hb : b ≠ 0) : nu (-a) b = -(nu a b) ∧ de (-a) b = de a b := by
  have hs := sg_ne (a := a) hb
  constructor
  · have h1 := nu_mul (-a) b
    have h2 := nu_mul a b
    rw [sg_neg] at h1
    have : sg a b * nu (-a) b = sg a b * (-(nu a b)) := by rw [h1, Int.mul_neg, h2]
    exact Int.eq_of_mul_eq_mul_left hs this
  · unfold de
    rw [sg_neg]
theorem Sm.dv {k : Nat} {a b c : Int} (s : Sm k a) (h : b * c = a) (hb : b ≠ 0) : Sm k c := by
  unfold Sm at *
  rw [← h, Int.natAbs_mul] at s
  have : 1 * c.natAbs ≤ b.natAbs * c.natAbs := Nat.mul_le_mul_right _ (by omega)
  omega
theorem Sm.nu {k : Nat} {a b : Int} (s : Sm k a) (hb : b ≠ 0) : Sm k (nu a b) := s.dv (nu_mul a b) (sg_ne hb)
theorem Sm.de {k : Nat} {a b : Int} (s : Sm k b) (hb : b ≠ 0) : Sm k (de a b) := s.dv (de_mul a b) (sg_ne hb)
theorem Sm.sg {k : Nat} {a b : Int} (s : Sm k b) (hb : b ≠ 0) : Sm k (sg a b) := s.dv (by rw [Int.mul_comm]; exact de_mul a b) (by have := (lo_nd (a := a) hb).1; omega)
end Mi

set_option Elab.async false
set_option linter.all false
set_option maxRecDepth 100000
set_option maxHeartbeats 1000000
/-! Pb: fractions: the walks. -/
namespace Mi
open PySem L2
def tys : List ClR := [.ty "NoneType", .ty "bool", .ty "int", .ty "str", .ty "tuple", .ty "list", .ty "dict", .own "Part"]
/-- the defs of fractions, where they stand -/
structure PaG (G : Prg) (I : ClsI) : Prop where
  isint : G.defs[k_is_integer]? = some ⟨1, 1, b_is_integer, []⟩
  common : G.defs[k_common]? = some ⟨2, 2, b_common, []⟩
  isnum : G.defs[k_is_number]? = some ⟨1, 1, b_is_number, []⟩
  aspart : G.defs[k_as_part]? = some ⟨1, 1, b_as_part, []⟩
  gap : G.defs[k_gap]? = some ⟨2, 3, b_gap, []⟩
  joined : G.defs[k_joined]? = some ⟨3, 4, b_joined, []⟩
  mult : G.defs[k_multiplied]? = some ⟨2, 2, b_multiplied, []⟩
  init : G.defs[k_Part_init_d]? = some ⟨3, 4, b_Part_init_d, [.int 1]⟩
  repr : G.defs[k_Part_repr_d]? = some ⟨1, 1, b_Part_repr_d, []⟩
  eq : G.defs[k_Part_eq_d]? = some ⟨2, 2, b_Part_eq_d, []⟩
  lt : G.defs[k_Part_lt_d]? = some ⟨2, 2, b_Part_lt_d, []⟩
  le : G.defs[k_Part_le_d]? = some ⟨2, 2, b_Part_le_d, []⟩
  gt : G.defs[k_Part_gt_d]? = some ⟨2, 2, b_Part_gt_d, []⟩
  ge : G.defs[k_Part_ge_d]? = some ⟨2, 2, b_Part_ge_d, []⟩
  neg : G.defs[k_Part_neg_d]? = some ⟨1, 1, b_Part_neg_d, []⟩
  add : G.defs[k_Part_add_d]? = some ⟨2, 2, b_Part_add_d, []⟩
  radd : G.defs[k_Part_radd_d]? = some ⟨2, 2, b_Part_radd_d, []⟩
  sub : G.defs[k_Part_sub_d]? = some ⟨2, 2, b_Part_sub_d, []⟩
  rsub : G.defs[k_Part_rsub_d]? = some ⟨2, 2, b_Part_rsub_d, []⟩
  mul : G.defs[k_Part_mul_d]? = some ⟨2, 2, b_Part_mul_d, []⟩
  rmul : G.defs[k_Part_rmul_d]? = some ⟨2, 2, b_Part_rmul_d, []⟩
  cls : G.cls.lookup ("Part" : Str) = some I
  slots : I.slots = [("own_number" : Str), ("own_under" : Str)]
  i0 : I.init = k_Part_init_d
  m_repr : I.meths.lookup ("__repr__" : Str) = some k_Part_repr_d
  m_eq : I.meths.lookup ("__eq__" : Str) = some k_Part_eq_d
  m_lt : I.meths.lookup ("__lt__" : Str) = some k_Part_lt_d
  m_le : I.meths.lookup ("__le__" : Str) = some k_Part_le_d
  m_gt : I.meths.lookup ("__gt__" : Str) = some k_Part_gt_d
  m_ge : I.meths.lookup ("__ge__" : Str) = some k_Part_ge_d
  m_neg : I.meths.lookup ("__neg__" : Str) = some k_Part_neg_d
  m_add : I.meths.lookup ("__add__" : Str) = some k_Part_add_d
  m_radd : I.meths.lookup ("__radd__" : Str) = some k_Part_radd_d
  m_sub : I.meths.lookup ("__sub__" : Str) = some k_Part_sub_d
  m_rsub : I.meths.lookup ("__rsub__" : Str) = some k_Part_rsub_d
  m_mul : I.meths.lookup ("__mul__" : Str) = some k_Part_mul_d
  m_rmul : I.meths.lookup ("__rmul__" : Str) = some k_Part_rmul_d
  i_int : ∀ t ∈ tys, isiL G.isiT t (.ty "int") = some (decide (t = .ty "int" ∨ t = .ty "bool"))
  i_bool : ∀ t ∈ tys, isiL G.isiT t (.ty "bool") = some (decide (t = .ty "bool"))
  i_part : ∀ t ∈ tys, isiL G.isiT t (.own "Part") = some (decide (t = .own "Part"))
  bad : G.errs.contains "BadPart" = true
/-- a fraction in the heap -/
abbrev prt (a b : Int) : Ob := .slt "Part" [some (.int a), some (.int b)]
/-- the kind of a value, one of those that are known -/
def Ty (h : LH) (v : Val) (t : ClR) : Prop := (tyO v h = some t ∧ ∀ c w, v ≠ .err c w) ∧ t ∈ tys
/-- a number: an integer, or a fraction -/
inductive Num (h : LH) : Val → Int → Int → Prop
  | int (i : Int) : Num h (.int i) i 1
  | prt {n : Nat} {a b : Int} : h[n]? = some (Mi.prt a b) → Num h (.loc n) a b
theorem Num.xt {h h' : LH} {v : Val} {a b : Int} (x : Xt h h') : Num h v a b → Num h' v a b
  | .int i => .int i
  | .prt e => .prt (x.2 _ _ e)
theorem Num.ty {h : LH} {v : Val} {a b : Int} : Num h v a b → ∃ t, Ty h v t ∧ (t = .ty "int" ∧ v = .int a ∧ b = 1 ∨ t = .own "Part" ∧ ∃ n, v = .loc n ∧ h[n]? = some (Mi.prt a b))
  | .int i => ⟨_, ⟨⟨rfl, fun _ _ z => by cases z⟩, by decide⟩, .inl ⟨rfl, rfl, rfl⟩⟩
  | .prt (n := n) e => ⟨.own "Part", ⟨⟨by
      show (match h[n]? with
        | some (.lst _) => some (ClR.ty "list")
        | some (.dK _) => some (.ty "dict")
        | some (.dT _) => some (.ty "dict")
        | some (.slt c _) => some (.own c)
        | _ => none) = _
      rw [e], fun _ _ z => by cases z⟩, by decide⟩, .inr ⟨rfl, n, rfl, e⟩⟩
section
variable {G : Prg} {I : ClsI} {d : Nat} {h : LH} {Q : Val → LH → Prop} {E : EP} {v : Val} {a b : Int} {t c : ClR}
theorem v_isi (P : PaG G I) (ht : Ty h v t) {x : Bool} (e : isiL G.isiT t c = some x) : vIsi G.isiT G.errs G.isC c v h = .ok (.bl x) h := by
  unfold vIsi
  rw [ht.1.1]
  dsimp only
  rw [e]
  have hC : G.isC "Part" = true := by unfold Prg.isC; rw [P.cls]; rfl
  have hm := ht.2
  simp only [tys, List.mem_cons, List.not_mem_nil, or_false] at hm
  rcases hm with rfl | rfl | rfl | rfl | rfl | rfl | rfl | rfl
  all_goals try rfl
  have hv : ∃ n, v = .loc n := by
    have h1 := ht.1.1
    unfold tyO at h1
    split at h1
    all_goals first
      | exact ⟨_, rfl⟩
      | exact absurd rfl (ht.1.2 _ _)
      | cases h1
  obtain ⟨n, rfl⟩ := hv
  dsimp only
  rw [hC]
theorem x_isint (P : PaG G I) (ht : Ty h v t) (q : Q (.bl (decide (t = .ty "int"))) h) : XC G d k_is_integer [v] h Q E := by
  refine xc P.isint rfl ?_
  simp only [b_is_integer, wS, wS1, w, wL, tbl, ttr, Mi.tOr, Mi.tAn, Mi.wAn, Mi.wOr, List.map_cons, List.map_nil, List.cons_append, List.nil_append, List.getElem?_cons_zero, List.getElem?_cons_succ, bindT, bindTs, seqT, List.length_cons, List.length_nil, Nat.reduceAdd, Nat.reduceSub, List.replicate, List.set_cons_zero, List.set_cons_succ]
  refine hd_by (v_isi P ht (P.i_int t ht.2)) ?_
  by_cases h1 : t = .ty "int"
  · rw [decide_eq_true (.inl h1)]
    refine hd_by (v_isi P ht (P.i_bool t ht.2)) ?_
    rw [decide_eq_true h1] at q
    rw [decide_eq_false (by rw [h1]; decide)]
    exact q
  · rw [decide_eq_false h1] at q
    by_cases h2 : t = .ty "bool"
    · rw [decide_eq_true (.inr h2)]
      refine hd_by (v_isi P ht (P.i_bool t ht.2)) ?_
      rw [decide_eq_true h2]
      exact q
    · rw [decide_eq_false (by intro z; rcases z with z | z; exact h1 z; exact h2 z)]
      exact q
theorem ty_int (i : Int) : Ty h (.int i) (.ty "int") := ⟨⟨rfl, fun _ _ z => by cases z⟩, by decide⟩
theorem v_abs {i : Int} : vBi .abs [.int i] h = .ok (.int i.natAbs) h := by
  show Res.ok (Val.int (if i < 0 then -i else i)) h = _
  congr 2
  split <;> omega
theorem x_common (P : PaG G I) (q : Q (.int (Int.gcd a b)) h) : XC G d k_common [.int a, .int b] h Q E := by
  refine xc P.common rfl ?_
  simp only [b_common, wS, wS1, w, wL, tbl, ttr, Mi.tOr, Mi.tAn, Mi.wAn, Mi.wOr, List.map_cons, List.map_nil, List.cons_append, List.nil_append, List.getElem?_cons_zero, List.getElem?_cons_succ, bindT, bindTs, seqT, List.length_cons, List.length_nil, Nat.reduceAdd, Nat.reduceSub, List.replicate, List.set_cons_zero, List.set_cons_succ]
  refine hd_by v_abs (hd_by v_abs ⟨by decide, ?_⟩)
  refine xw_inv (fun sl h1 => match sl with | [_, some (.int y)] => y.natAbs | _ => 0) (fun sl h1 => h1 = h ∧ ∃ x y : Nat, sl = [some (.int x), some (.int y)] ∧ Nat.gcd x y = Int.gcd a b) ⟨rfl, a.natAbs, b.natAbs, rfl, rfl⟩ ?_
  rintro sl h1 ⟨rfl, x, y, rfl, hg⟩
  simp only [wS, wS1, w, wL, tbl, ttr, Mi.tOr, Mi.tAn, Mi.wAn, Mi.wOr, List.map_cons, List.map_nil, List.cons_append, List.nil_append, List.getElem?_cons_zero, List.getElem?_cons_succ, bindT, bindTs, seqT, List.length_cons, List.length_nil, Nat.reduceAdd, Nat.reduceSub, List.replicate, List.set_cons_zero, List.set_cons_succ]
  refine ⟨rfl, ne_by (v := .bl (!decide ((y : Int) = 0))) (h1 := h1) rfl ?_⟩
  by_cases hy : (y : Int) = 0
  · rw [decide_eq_true hy]
    have : y = 0 := by omega
    subst this
    rw [Nat.gcd_zero_right] at hg
    subst hg
    exact q
  · rw [decide_eq_false hy]
    refine ow_by (v_mod (by omega)) ⟨by decide, ?_⟩
    refine ⟨⟨rfl, y, x % y, ?_, ?_⟩, ?_⟩
    · rw [Int.fmod_eq_emod_of_nonneg _ (by omega)]
      rfl
    · rw [← hg, Nat.gcd_comm x y, Nat.gcd_rec y x, Nat.gcd_comm]
    · show (Int.fmod x y).natAbs < (y : Int).natAbs
      rw [Int.fmod_eq_emod_of_nonneg _ (by omega)]
      have : ((x : Int) % (y : Int)).natAbs = x % y := by omega
      rw [this]
      have := Nat.mod_lt x (show y > 0 by omega)
      omega
/-! ### slots -/
theorem sl0 (P : PaG G I) : slotI I "own_number" = some 0 := by unfold slotI; rw [P.slots]; rfl
theorem sl1 (P : PaG G I) : slotI I "own_under" = some 1 := by unfold slotI; rw [P.slots]; rfl
theorem ins_p {n : Nat} {c : Str} {fs : List (Option Val)} (e : h[n]? = some (.slt c fs)) : insO (.loc n) h = some (c, fs) := by
  show (match h[n]? with
    | some (.slt c fs) => some (c, fs)
    | _ => none) = _
  rw [e]
theorem att_num (P : PaG G I) {n : Nat} (e : h[n]? = some (prt a b)) (q : Q (.int a) h) : wAtt G d (.loc n) "own_number" h Q E := by
  unfold wAtt attO
  rw [ins_p e]
  dsimp only
  rw [P.cls]
  dsimp only
  rw [sl0 P]
  exact q
theorem att_und (P : PaG G I) {n : Nat} (e : h[n]? = some (prt a b)) (q : Q (.int b) h) : wAtt G d (.loc n) "own_under" h Q E := by
  unfold wAtt attO
  rw [ins_p e]
  dsimp only
  rw [P.cls]
  dsimp only
  rw [sl1 P]
  exact q
theorem sta_num (P : PaG G I) {n : Nat} {v : Val} {fs : List (Option Val)} (e : h[n]? = some (.slt "Part" fs)) : vSta G (.loc n) "own_number" v h = some (h.set n (.slt "Part" (putO 0 v fs))) := by
  unfold vSta
  rw [ins_p e]
  dsimp only
  rw [P.cls]
  dsimp only
  rw [sl0 P]
  rfl
theorem sta_und (P : PaG G I) {n : Nat} {v : Val} {fs : List (Option Val)} (e : h[n]? = some (.slt "Part" fs)) : vSta G (.loc n) "own_under" v h = some (h.set n (.slt "Part" (putO 1 v fs))) := by
  unfold vSta
  rw [ins_p e]
  dsimp only
  rw [P.cls]
  dsimp only
  rw [sl1 P]
  rfl
theorem x_init (P : PaG G I) {n k : Nat} (hd : 1 ≤ d) (e : h[n]? = some (.slt "Part" [])) (hb : b ≠ 0) (sb : Sm k b) (hk0 : 0 < k) (hk : k ≤ 9000) (q : Q .non (h.set n (prt (nu a b) (de a b)))) : XC G d k_Part_init_d [.loc n, .int a, .int b] h Q E := by
  refine xc P.init rfl ?_
  simp only [b_Part_init_d, wS, wS1, w, wL, tbl, ttr, Mi.tOr, Mi.tAn, Mi.wAn, Mi.wOr, List.map_cons, List.map_nil, List.cons_append, List.nil_append, List.getElem?_cons_zero, List.getElem?_cons_succ, bindT, bindTs, seqT, List.length_cons, List.length_nil, Nat.reduceAdd, Nat.reduceSub, List.replicate, List.set_cons_zero, List.set_cons_succ]
  have hlt := (List.getElem?_eq_some_iff.mp e).1
  refine ⟨hd, x_isint P (ty_int a) ?_⟩
  refine ⟨hd, x_isint P (ty_int b) ?_⟩
  refine ⟨rfl, ow_by (v := .bl (decide (b = 0))) (h1 := h) rfl ?_⟩
  rw [decide_eq_false hb]
  refine ⟨hd, x_common P ?_⟩
  refine ⟨rfl, ow_by (v := .bl (decide (b < 0))) (h1 := h) rfl ?_⟩
  have key : ∀ g : Int, g = sg a b → wOwn G d (ownO G (dunB .FloorDiv) (.int a) (.int g) h) (vBin .FloorDiv (.int a) (.int g) h) h (fun v h1 => match vSta G (.loc n) "own_number" v h1 with
      | some h3 => wOwn G d (ownO G (dunB .FloorDiv) (.int b) (.int g) h3) (vBin .FloorDiv (.int b) (.int g) h3) h3 (fun v h1 => match vSta G (.loc n) "own_under" v h1 with
        | some h3 => Q .non h3
        | none => False) fun c v h1 => E c v h1
      | none => False) fun c v h1 => E c v h1 := by
    rintro g rfl
    refine ow_by (v_divS (sg_ne hb) (sb.sg hb)) ?_
    rw [sta_num P e]
    dsimp only
    refine ow_by (v_divS (sg_ne hb) (sb.sg hb)) ?_
    rw [sta_und P (List.getElem?_set_self hlt), List.set_set]
    exact q
  by_cases hs : b < 0
  · rw [decide_eq_true hs]
    refine ow_by (v := .int (-(Int.gcd a b))) (h1 := h) rfl (key _ ?_)
    unfold sg
    rw [if_pos hs]
  · rw [decide_eq_false hs]
    refine key _ ?_
    unfold sg
    rw [if_neg hs]
/-- Part(a, b) -/
theorem w_mk2 (P : PaG G I) {k : Nat} (hd : 3 ≤ d) (hb : b ≠ 0) (sb : Sm k b) (hk0 : 0 < k) (hk : k ≤ 9000) (q : Q (.loc h.length) (h ++ [prt (nu a b) (de a b)])) : wMk G d "Part" [.int a, .int b] h Q E := by
  unfold wMk
  rw [P.cls]
  dsimp only
  rw [P.i0]
  have ef : fillV G k_Part_init_d [.loc h.length, .int a, .int b] = [.loc h.length, .int a, .int b] := by
    unfold fillV
    rw [P.init]
    rfl
  rw [ef]
  refine x_init P (by omega) at_end hb sb hk0 hk ⟨rfl, ?_⟩
  rw [show h.length = h.length from rfl, List.set_append_right _ _ (Nat.le_refl _), Nat.sub_self]
  exact q
theorem w_mk1 (P : PaG G I) (hd : 3 ≤ d) (q : Q (.loc h.length) (h ++ [prt a 1])) : wMk G d "Part" [.int a] h Q E := by
  unfold wMk
  rw [P.cls]
  dsimp only
  rw [P.i0]
  have ef : fillV G k_Part_init_d [.loc h.length, .int a] = [.loc h.length, .int a, .int 1] := by
    unfold fillV
    rw [P.init]
    rfl
  rw [ef]
  refine x_init P (by omega) at_end (by omega) (Sm.one (k := 1) (by omega)) (by omega) (by omega) ⟨rfl, ?_⟩
  rw [List.set_append_right _ _ (Nat.le_refl _), Nat.sub_self, (lo_self (lo_one a)).1, (lo_self (lo_one a)).2]
  exact q
/-! ### numbers -/
theorem x_isnum (P : PaG G I) (hd : 1 ≤ d) (ht : Ty h v t) (q : Q (.bl (decide (t = .ty "int" ∨ t = .own "Part"))) h) : XC G d k_is_number [v] h Q E := by
  refine xc P.isnum rfl ?_
  simp only [b_is_number, wS, wS1, w, wL, tbl, ttr, Mi.tOr, Mi.tAn, Mi.wAn, Mi.wOr, List.map_cons, List.map_nil, List.cons_append, List.nil_append, List.getElem?_cons_zero, List.getElem?_cons_succ, bindT, bindTs, seqT, List.length_cons, List.length_nil, Nat.reduceAdd, Nat.reduceSub, List.replicate, List.set_cons_zero, List.set_cons_succ]
  refine ⟨hd, x_isint P ht ?_⟩
  by_cases h1 : t = .ty "int"
  · rw [decide_eq_true h1]
    rw [decide_eq_true (.inl h1)] at q
    exact q
  · rw [decide_eq_false h1]
    refine hd_by (v_isi P ht (P.i_part t ht.2)) ?_
    by_cases h2 : t = .own "Part"
    · rw [decide_eq_true h2]
      rw [decide_eq_true (.inr h2)] at q
      exact q
    · rw [decide_eq_false h2]
      rw [decide_eq_false (by intro z; rcases z with z | z; exact h1 z; exact h2 z)] at q
      exact q
theorem x_aspart (P : PaG G I) (hd : 3 ≤ d) (hv : Num h v a b) (q : ∀ n h', Xt h h' → h'[n]? = some (prt a b) → Q (.loc n) h') : XC G d k_as_part [v] h Q E := by
  refine xc P.aspart rfl ?_
  simp only [b_as_part, wS, wS1, w, wL, tbl, ttr, Mi.tOr, Mi.tAn, Mi.wAn, Mi.wOr, List.map_cons, List.map_nil, List.cons_append, List.nil_append, List.getElem?_cons_zero, List.getElem?_cons_succ, bindT, bindTs, seqT, List.length_cons, List.length_nil, Nat.reduceAdd, Nat.reduceSub, List.replicate, List.set_cons_zero, List.set_cons_succ]
  obtain ⟨t, ht, hc⟩ := hv.ty
  refine hd_by (v_isi P ht (P.i_part t ht.2)) ?_
  rcases hc with ⟨rfl, rfl, rfl⟩ | ⟨rfl, n, rfl, e⟩
  · refine ⟨by omega, ?_⟩
    exact w_mk1 P hd (q _ _ (Xt.app _ _) at_end)
  · exact q n h (⟨Nat.le_refl _, fun _ _ z => z⟩) e
end
end Mi

set_option Elab.async false
set_option linter.all false
set_option maxRecDepth 100000
set_option maxHeartbeats 1000000
/-! Pc: fractions: operators. -/
namespace Mi
open PySem L2
theorem Xt.refl (h : LH) : Xt h h := ⟨Nat.le_refl _, fun _ _ z => z⟩
section
variable {G : Prg} {I : ClsI} {d : Nat} {h : LH} {Q : Val → LH → Prop} {E : EP} {v : Val} {a b a' b' : Int} {n m : Nat}
theorem x_gap (P : PaG G I) (hd : 4 ≤ d) (e : h[n]? = some (prt a b)) (hv : Num h v a' b') (s1 : Sm 1000 a) (s2 : Sm 1000 b) (s3 : Sm 1000 a') (s4 : Sm 1000 b') (q : ∀ h', Xt h h' → Q (.int (a * b' - a' * b)) h') : XC G d k_gap [.loc n, v] h Q E := by
  refine xc P.gap rfl ?_
  simp only [b_gap, wS, wS1, w, wL, tbl, ttr, Mi.tOr, Mi.tAn, Mi.wAn, Mi.wOr, List.map_cons, List.map_nil, List.cons_append, List.nil_append, List.getElem?_cons_zero, List.getElem?_cons_succ, bindT, bindTs, seqT, List.length_cons, List.length_nil, Nat.reduceAdd, Nat.reduceSub, List.replicate, List.set_cons_zero, List.set_cons_succ]
  refine ⟨by omega, x_aspart P (by omega) hv fun m h' x e' => ?_⟩
  have e := x.2 _ _ e
  refine att_num P e (att_und P e' (ow_by (v_mulS s1 s4) (att_num P e' (att_und P e (ow_by (v_mulS s3 s2) (ow_by (v := .int (a * b' - a' * b)) (h1 := h') rfl (q _ x)))))))
theorem x_joined (P : PaG G I) {s : Int} (hd : 4 ≤ d) (e : h[n]? = some (prt a b)) (e' : h[m]? = some (prt a' b')) (s1 : Sm 1000 a) (s2 : Sm 1000 b) (s3 : Sm 1000 a') (s4 : Sm 1000 b') (s5 : Sm 1000 s) (hb : b ≠ 0) (hb' : b' ≠ 0)
    (q : ∀ i h', Xt h h' → h'[i]? = some (prt (nu (a * b' + s * a' * b) (b * b')) (de (a * b' + s * a' * b) (b * b'))) → Q (.loc i) h') : XC G d k_joined [.loc n, .loc m, .int s] h Q E := by
  refine xc P.joined rfl ?_
  simp only [b_joined, wS, wS1, w, wL, tbl, ttr, Mi.tOr, Mi.tAn, Mi.wAn, Mi.wOr, List.map_cons, List.map_nil, List.cons_append, List.nil_append, List.getElem?_cons_zero, List.getElem?_cons_succ, bindT, bindTs, seqT, List.length_cons, List.length_nil, Nat.reduceAdd, Nat.reduceSub, List.replicate, List.set_cons_zero, List.set_cons_succ]
  refine att_num P e (att_und P e' (ow_by (v_mulS s1 s4) (att_num P e' (ow_by (v_mulS s5 s3) (att_und P e (ow_by (v_mulS (s5.mul s3) s2) (ow_by (v := .int (a * b' + s * a' * b)) (h1 := h) rfl ⟨by omega, att_und P e (att_und P e' (ow_by (v_mulS s2 s4) ?_))⟩)))))))
  exact w_mk2 P (by omega) (Int.mul_ne_zero hb hb') (s2.mul s4) (by omega) (by omega) (q _ _ (Xt.app _ _) at_end)
theorem x_mult (P : PaG G I) (hd : 4 ≤ d) (e : h[n]? = some (prt a b)) (e' : h[m]? = some (prt a' b')) (s1 : Sm 1000 a) (s2 : Sm 1000 b) (s3 : Sm 1000 a') (s4 : Sm 1000 b') (hb : b ≠ 0) (hb' : b' ≠ 0)
    (q : ∀ i h', Xt h h' → h'[i]? = some (prt (nu (a * a') (b * b')) (de (a * a') (b * b'))) → Q (.loc i) h') : XC G d k_multiplied [.loc n, .loc m] h Q E := by
  refine xc P.mult rfl ?_
  simp only [b_multiplied, wS, wS1, w, wL, tbl, ttr, Mi.tOr, Mi.tAn, Mi.wAn, Mi.wOr, List.map_cons, List.map_nil, List.cons_append, List.nil_append, List.getElem?_cons_zero, List.getElem?_cons_succ, bindT, bindTs, seqT, List.length_cons, List.length_nil, Nat.reduceAdd, Nat.reduceSub, List.replicate, List.set_cons_zero, List.set_cons_succ]
  refine ⟨by omega, att_num P e (att_num P e' (ow_by (v_mulS s1 s3) (att_und P e (att_und P e' (ow_by (v_mulS s2 s4) ?_)))))⟩
  exact w_mk2 P (by omega) (Int.mul_ne_zero hb hb') (s2.mul s4) (by omega) (by omega) (q _ _ (Xt.app _ _) at_end)
theorem Num.isn {t : ClR} (hv : Num h v a b) (P : PaG G I) (hd : 1 ≤ d) (q : Q (.bl true) h) : XC G d k_is_number [v] h Q E := by
  obtain ⟨t, ht, hc⟩ := hv.ty
  refine x_isnum P hd ht ?_
  rw [decide_eq_true]
  · exact q
  · rcases hc with ⟨z, _⟩ | ⟨z, _⟩
    · exact .inl z
    · exact .inr z
/-! ### the methods -/
/-- what the numbers are -/
structure Ok2 (a b a' b' : Int) : Prop where
  s1 : Sm 1000 a
  s2 : Sm 1000 b
  s3 : Sm 1000 a'
  s4 : Sm 1000 b'
  hb : b ≠ 0
  hb' : b' ≠ 0
theorem x_lt (P : PaG G I) (hd : 5 ≤ d) (e : h[n]? = some (prt a b)) (hv : Num h v a' b') (o : Ok2 a b a' b') (q : ∀ h', Xt h h' → Q (.bl (decide (a * b' - a' * b < 0))) h') : XC G d k_Part_lt_d [.loc n, v] h Q E := by
  refine xc P.lt rfl ?_
  simp only [b_Part_lt_d, wS, wS1, w, wL, tbl, ttr, Mi.tOr, Mi.tAn, Mi.wAn, Mi.wOr, List.map_cons, List.map_nil, List.cons_append, List.nil_append, List.getElem?_cons_zero, List.getElem?_cons_succ, bindT, bindTs, seqT, List.length_cons, List.length_nil, Nat.reduceAdd, Nat.reduceSub, List.replicate, List.set_cons_zero, List.set_cons_succ]
  exact ⟨by omega, hv.isn (t := .ty "int") P (by omega) ⟨by omega, x_gap P (by omega) e hv o.s1 o.s2 o.s3 o.s4 fun h' x => ⟨rfl, ow_by (v := .bl (decide (a * b' - a' * b < 0))) (h1 := h') rfl (q h' x)⟩⟩⟩
theorem x_le (P : PaG G I) (hd : 5 ≤ d) (e : h[n]? = some (prt a b)) (hv : Num h v a' b') (o : Ok2 a b a' b') (q : ∀ h', Xt h h' → Q (.bl (decide (a * b' - a' * b ≤ 0))) h') : XC G d k_Part_le_d [.loc n, v] h Q E := by
  refine xc P.le rfl ?_
  simp only [b_Part_le_d, wS, wS1, w, wL, tbl, ttr, Mi.tOr, Mi.tAn, Mi.wAn, Mi.wOr, List.map_cons, List.map_nil, List.cons_append, List.nil_append, List.getElem?_cons_zero, List.getElem?_cons_succ, bindT, bindTs, seqT, List.length_cons, List.length_nil, Nat.reduceAdd, Nat.reduceSub, List.replicate, List.set_cons_zero, List.set_cons_succ]
  exact ⟨by omega, hv.isn (t := .ty "int") P (by omega) ⟨by omega, x_gap P (by omega) e hv o.s1 o.s2 o.s3 o.s4 fun h' x => ⟨rfl, ow_by (v := .bl (decide (a * b' - a' * b ≤ 0))) (h1 := h') rfl (q h' x)⟩⟩⟩
theorem x_gt (P : PaG G I) (hd : 5 ≤ d) (e : h[n]? = some (prt a b)) (hv : Num h v a' b') (o : Ok2 a b a' b') (q : ∀ h', Xt h h' → Q (.bl (decide (a * b' - a' * b > 0))) h') : XC G d k_Part_gt_d [.loc n, v] h Q E := by
  refine xc P.gt rfl ?_
  simp only [b_Part_gt_d, wS, wS1, w, wL, tbl, ttr, Mi.tOr, Mi.tAn, Mi.wAn, Mi.wOr, List.map_cons, List.map_nil, List.cons_append, List.nil_append, List.getElem?_cons_zero, List.getElem?_cons_succ, bindT, bindTs, seqT, List.length_cons, List.length_nil, Nat.reduceAdd, Nat.reduceSub, List.replicate, List.set_cons_zero, List.set_cons_succ]
  exact ⟨by omega, hv.isn (t := .ty "int") P (by omega) ⟨by omega, x_gap P (by omega) e hv o.s1 o.s2 o.s3 o.s4 fun h' x => ⟨rfl, ow_by (v := .bl (decide (a * b' - a' * b > 0))) (h1 := h') rfl (q h' x)⟩⟩⟩
theorem x_ge (P : PaG G I) (hd : 5 ≤ d) (e : h[n]? = some (prt a b)) (hv : Num h v a' b') (o : Ok2 a b a' b') (q : ∀ h', Xt h h' → Q (.bl (decide (a * b' - a' * b ≥ 0))) h') : XC G d k_Part_ge_d [.loc n, v] h Q E := by
  refine xc P.ge rfl ?_
  simp only [b_Part_ge_d, wS, wS1, w, wL, tbl, ttr, Mi.tOr, Mi.tAn, Mi.wAn, Mi.wOr, List.map_cons, List.map_nil, List.cons_append, List.nil_append, List.getElem?_cons_zero, List.getElem?_cons_succ, bindT, bindTs, seqT, List.length_cons, List.length_nil, Nat.reduceAdd, Nat.reduceSub, List.replicate, List.set_cons_zero, List.set_cons_succ]
  exact ⟨by omega, hv.isn (t := .ty "int") P (by omega) ⟨by omega, x_gap P (by omega) e hv o.s1 o.s2 o.s3 o.s4 fun h' x => ⟨rfl, ow_by (v := .bl (decide (a * b' - a' * b ≥ 0))) (h1 := h') rfl (q h' x)⟩⟩⟩
/-- a new fraction a/b is wanted -/
def WP (h : LH) (Q : Val → LH → Prop) (a b : Int) : Prop := ∀ i h', Xt h h' → h'[i]? = some (prt (nu a b) (de a b)) → Q (.loc i) h'
theorem WP.sh {h1 : LH} {a b a2 b2 : Int} (q : WP h Q a b) (x : Xt h h1) (ea : a2 = a) (eb : b2 = b) : WP h1 Q a2 b2 := fun i h' x' e => q i h' (x.trans x') (by rw [← ea, ← eb]; exact e)
theorem x_add (P : PaG G I) (hd : 5 ≤ d) (e : h[n]? = some (prt a b)) (hv : Num h v a' b') (o : Ok2 a b a' b') (q : WP h Q (a * b' + a' * b) (b * b')) : XC G d k_Part_add_d [.loc n, v] h Q E := by
  refine xc P.add rfl ?_
  simp only [b_Part_add_d, wS, wS1, w, wL, tbl, ttr, Mi.tOr, Mi.tAn, Mi.wAn, Mi.wOr, List.map_cons, List.map_nil, List.cons_append, List.nil_append, List.getElem?_cons_zero, List.getElem?_cons_succ, bindT, bindTs, seqT, List.length_cons, List.length_nil, Nat.reduceAdd, Nat.reduceSub, List.replicate, List.set_cons_zero, List.set_cons_succ]
  exact ⟨by omega, hv.isn (t := .ty "int") P (by omega) ⟨by omega, by omega, x_aspart P (by omega) hv fun m h' x e' => ⟨rfl, x_joined P (by omega) (x.2 _ _ e) e' o.s1 o.s2 o.s3 o.s4 (Sm.one (by omega)) o.hb o.hb' (q.sh x (by rw [Int.one_mul]) rfl)⟩⟩⟩
theorem x_sub (P : PaG G I) (hd : 5 ≤ d) (e : h[n]? = some (prt a b)) (hv : Num h v a' b') (o : Ok2 a b a' b') (q : WP h Q (a * b' - a' * b) (b * b')) : XC G d k_Part_sub_d [.loc n, v] h Q E := by
  refine xc P.sub rfl ?_
  simp only [b_Part_sub_d, wS, wS1, w, wL, tbl, ttr, Mi.tOr, Mi.tAn, Mi.wAn, Mi.wOr, List.map_cons, List.map_nil, List.cons_append, List.nil_append, List.getElem?_cons_zero, List.getElem?_cons_succ, bindT, bindTs, seqT, List.length_cons, List.length_nil, Nat.reduceAdd, Nat.reduceSub, List.replicate, List.set_cons_zero, List.set_cons_succ]
  exact ⟨by omega, hv.isn (t := .ty "int") P (by omega) ⟨by omega, by omega, x_aspart P (by omega) hv fun m h' x e' => ⟨rfl, ow_by (v := .int (-1)) (h1 := h') rfl (x_joined P (by omega) (x.2 _ _ e) e' o.s1 o.s2 o.s3 o.s4 (Sm.one (by omega)).neg o.hb o.hb' (q.sh x (by rw [Int.neg_mul, Int.one_mul, Int.neg_mul, Int.sub_eq_add_neg]) rfl))⟩⟩⟩
theorem x_mul (P : PaG G I) (hd : 5 ≤ d) (e : h[n]? = some (prt a b)) (hv : Num h v a' b') (o : Ok2 a b a' b') (q : WP h Q (a * a') (b * b')) : XC G d k_Part_mul_d [.loc n, v] h Q E := by
  refine xc P.mul rfl ?_
  simp only [b_Part_mul_d, wS, wS1, w, wL, tbl, ttr, Mi.tOr, Mi.tAn, Mi.wAn, Mi.wOr, List.map_cons, List.map_nil, List.cons_append, List.nil_append, List.getElem?_cons_zero, List.getElem?_cons_succ, bindT, bindTs, seqT, List.length_cons, List.length_nil, Nat.reduceAdd, Nat.reduceSub, List.replicate, List.set_cons_zero, List.set_cons_succ]
  exact ⟨by omega, hv.isn (t := .ty "int") P (by omega) ⟨by omega, by omega, x_aspart P (by omega) hv fun m h' x e' => x_mult P (by omega) (x.2 _ _ e) e' o.s1 o.s2 o.s3 o.s4 o.hb o.hb' (q.sh x rfl rfl)⟩⟩
theorem x_radd (P : PaG G I) (hd : 5 ≤ d) (e : h[n]? = some (prt a b)) (hv : Num h v a' b') (o : Ok2 a b a' b') (q : WP h Q (a * b' + a' * b) (b * b')) : XC G d k_Part_radd_d [.loc n, v] h Q E := by
  refine xc P.radd rfl ?_
  simp only [b_Part_radd_d, wS, wS1, w, wL, tbl, ttr, Mi.tOr, Mi.tAn, Mi.wAn, Mi.wOr, List.map_cons, List.map_nil, List.cons_append, List.nil_append, List.getElem?_cons_zero, List.getElem?_cons_succ, bindT, bindTs, seqT, List.length_cons, List.length_nil, Nat.reduceAdd, Nat.reduceSub, List.replicate, List.set_cons_zero, List.set_cons_succ]
  exact ⟨by omega, hv.isn (t := .ty "int") P (by omega) ⟨by omega, by omega, x_aspart P (by omega) hv fun m h' x e' => ⟨rfl, x_joined P (by omega) e' (x.2 _ _ e) o.s3 o.s4 o.s1 o.s2 (Sm.one (by omega)) o.hb' o.hb (q.sh x (by rw [Int.one_mul, Int.add_comm]) (Int.mul_comm ..))⟩⟩⟩
theorem x_rsub (P : PaG G I) (hd : 5 ≤ d) (e : h[n]? = some (prt a b)) (hv : Num h v a' b') (o : Ok2 a b a' b') (q : WP h Q (a' * b - a * b') (b * b')) : XC G d k_Part_rsub_d [.loc n, v] h Q E := by
  refine xc P.rsub rfl ?_
  simp only [b_Part_rsub_d, wS, wS1, w, wL, tbl, ttr, Mi.tOr, Mi.tAn, Mi.wAn, Mi.wOr, List.map_cons, List.map_nil, List.cons_append, List.nil_append, List.getElem?_cons_zero, List.getElem?_cons_succ, bindT, bindTs, seqT, List.length_cons, List.length_nil, Nat.reduceAdd, Nat.reduceSub, List.replicate, List.set_cons_zero, List.set_cons_succ]
  exact ⟨by omega, hv.isn (t := .ty "int") P (by omega) ⟨by omega, by omega, x_aspart P (by omega) hv fun m h' x e' => ⟨rfl, ow_by (v := .int (-1)) (h1 := h') rfl (x_joined P (by omega) e' (x.2 _ _ e) o.s3 o.s4 o.s1 o.s2 (Sm.one (by omega)).neg o.hb' o.hb (q.sh x (by rw [Int.neg_mul, Int.one_mul, Int.neg_mul, Int.sub_eq_add_neg]) (Int.mul_comm ..)))⟩⟩⟩
theorem x_rmul (P : PaG G I) (hd : 5 ≤ d) (e : h[n]? = some (prt a b)) (hv : Num h v a' b') (o : Ok2 a b a' b') (q : WP h Q (a * a') (b * b')) : XC G d k_Part_rmul_d [.loc n, v] h Q E := by
  refine xc P.rmul rfl ?_
  simp only [b_Part_rmul_d, wS, wS1, w, wL, tbl, ttr, Mi.tOr, Mi.tAn, Mi.wAn, Mi.wOr, List.map_cons, List.map_nil, List.cons_append, List.nil_append, List.getElem?_cons_zero, List.getElem?_cons_succ, bindT, bindTs, seqT, List.length_cons, List.length_nil, Nat.reduceAdd, Nat.reduceSub, List.replicate, List.set_cons_zero, List.set_cons_succ]
  exact ⟨by omega, hv.isn (t := .ty "int") P (by omega) ⟨by omega, by omega, x_aspart P (by omega) hv fun m h' x e' => x_mult P (by omega) e' (x.2 _ _ e) o.s3 o.s4 o.s1 o.s2 o.hb' o.hb (q.sh x (Int.mul_comm ..) (Int.mul_comm ..))⟩⟩
theorem x_neg (P : PaG G I) (hd : 3 ≤ d) (e : h[n]? = some (prt a b)) (s2 : Sm 1000 b) (hb : b ≠ 0) (q : WP h Q (-a) b) : XC G d k_Part_neg_d [.loc n] h Q E := by
  refine xc P.neg rfl ?_
  simp only [b_Part_neg_d, wS, wS1, w, wL, tbl, ttr, Mi.tOr, Mi.tAn, Mi.wAn, Mi.wOr, List.map_cons, List.map_nil, List.cons_append, List.nil_append, List.getElem?_cons_zero, List.getElem?_cons_succ, bindT, bindTs, seqT, List.length_cons, List.length_nil, Nat.reduceAdd, Nat.reduceSub, List.replicate, List.set_cons_zero, List.set_cons_succ]
  exact ⟨by omega, att_num P e (ow_by (v := .int (-a)) (h1 := h) rfl (att_und P e (w_mk2 P (by omega) hb s2 (by omega) (by omega) (q _ _ (Xt.app _ _) at_end))))⟩
/-! ### the operators, where they stand -/
theorem mth_p (P : PaG G I) {x : Str} {k : Nat} {fs : List (Option Val)} (e : h[n]? = some (.slt "Part" fs)) (hm : I.meths.lookup x = some k) : mthO G (.loc n) x h = some k := by
  unfold mthO
  rw [ins_p e]
  dsimp only
  rw [P.cls]
  exact hm
/-- one side is a fraction, the other one a number -/
theorem own_l (P : PaG G I) {f g : Str} {kf kg : Nat} {o : Option (Str × Str)} (ho : o = some (f, g)) (hf : I.meths.lookup f = some kf) (hg : I.meths.lookup g = some kg) (e : h[n]? = some (prt a b)) (hv : Num h v a' b') : ownO G o (.loc n) v h = some (kf, [.loc n, v]) := by
  subst ho
  unfold ownO
  dsimp only
  rw [mth_p P e hf, mth_p P e hg]
  cases hv with
  | int i => rfl
  | prt e' =>
    rename_i m'
    have : sameC (.loc n) (.loc m') h = true := by
      unfold sameC
      rw [ins_p e, ins_p e']
      rfl
    rw [this]
    rfl
theorem own_r (P : PaG G I) {f g : Str} {kf kg : Nat} {o : Option (Str × Str)} {i : Int} (ho : o = some (f, g)) (hf : I.meths.lookup f = some kf) (hg : I.meths.lookup g = some kg) (e : h[n]? = some (prt a b)) : ownO G o (.int i) (.loc n) h = some (kg, [.loc n, .int i]) := by
  subst ho
  unfold ownO
  dsimp only
  have e0 : mthO G (.int i) f h = none := rfl
  rw [e0]
  dsimp only
  rw [mth_p P e hf, mth_p P e hg]
  rfl
theorem wo {o : Option (Nat × List Val)} {x : Res Val} {k : Nat} {vs : List Val} (e : o = some (k, vs)) (hd : 1 ≤ d) (q : XC G (d - 1) k vs h Q E) : wOwn G d o x h Q E := by
  subst e
  exact ⟨hd, q⟩
end
end Mi

set_option Elab.async false
set_option linter.all false
set_option maxRecDepth 100000
set_option maxHeartbeats 1000000
/-! Pd: fractions: the laws' own reckoning. -/
namespace Mi
open PySem L2
theorem int_len {i : Int} (s : Sm 1000 i) : (PyData.int i).shown.length ≤ 1001 := by
  show (Str.ofString (toString i)).length ≤ _
  rw [ofString_length]
  exact int_text_length_le (by omega) (s.log (by omega))
theorem rep2 {h : LH} {a b : Int} (s : Sm 1000 a) (t : Sm 1000 b) : vRep (.tup [.int a, .int b]) h = .ok (.str (PyData.tuple [.int a, .int b]).shown) h := by
  unfold vRep
  have e : toR 40 h (.tup [.int a, .int b]) = some (.tuple [.int a, .int b]) := rfl
  rw [e]
  dsimp only
  have h1 : PyData.showable (.tuple [.int a, .int b]) = true := by
    have := s.log (by omega)
    have := t.log (by omega)
    simp only [PyData.showable, PyData.showableAll, Bool.and_true, Bool.and_eq_true, decide_eq_true_eq]
    omega
  have h2 : (PyData.tuple [.int a, .int b]).shown.length ≤ sizeLine := by
    have z := tupleText_len_le [(PyData.int a).shown, (PyData.int b).shown]
    have := int_len s
    have := int_len t
    have e2 : (PyData.tuple [.int a, .int b]).shown = tupleText [(PyData.int a).shown, (PyData.int b).shown] := by simp only [PyData.shown, PyData.shownAll]
    rw [e2]
    simp only [List.map_cons, List.map_nil, List.sum_cons, List.sum_nil, List.length_cons, List.length_nil] at z
    rw [sizeLine_eq]
    omega
  have h3 : (PyData.tuple [.int a, .int b]).depth ≤ 100 := by simp [PyData.depth, PyData.depthAll]
  rw [h1, decide_eq_true h2, decide_eq_true h3]
  rfl
theorem eq_str {s : Str} {h : LH} : vCmp .Eq (.str s) (.str s) h = .ok (.bl true) h := by
  show ofB (eqB (.str s) (.str s) h) h = _
  unfold eqB
  have e : scl (.str s) (.str s) = some true := by
    show some (decide (s = s)) = _
    simp
  rw [e]
  rfl
section
variable {G : Prg} {I : ClsI} {d : Nat} {h : LH} {Q : Val → LH → Prop} {E : EP} {v : Val} {a b a' b' : Int} {n m : Nat}
/-- a pair of integers, as a tuple -/
abbrev pr (a b : Int) : Val := .tup [.int a, .int b]
theorem nu_sg {a b : Int} {s : Int} (hs : s = if b < 0 then -1 else 1) : (s * a).fdiv (Int.gcd a b) = nu a b ∧ (s * b).fdiv (Int.gcd a b) = de a b := by
  unfold nu de sg
  subst hs
  split
  · rw [Int.neg_mul, Int.one_mul, Int.neg_mul, Int.one_mul]
    constructor
    · rw [← Int.neg_fdiv_neg, Int.neg_neg]
    · rw [← Int.neg_fdiv_neg, Int.neg_neg]
  · rw [Int.one_mul, Int.one_mul]
    exact ⟨rfl, rfl⟩
theorem x_pair (hG : G.defs[k__law_pair]? = some ⟨2, 5, b__law_pair, []⟩) (sa : Sm 4000 a) (sb : Sm 4000 b) (hb : b ≠ 0) (q : Q (pr (nu a b) (de a b)) h) : XC G d k__law_pair [.int a, .int b] h Q E := by
  refine xc hG rfl ?_
  simp only [b__law_pair, wS, wS1, w, wL, tbl, ttr, Mi.tOr, Mi.tAn, Mi.wAn, Mi.wOr, List.map_cons, List.map_nil, List.cons_append, List.nil_append, List.getElem?_cons_zero, List.getElem?_cons_succ, bindT, bindTs, seqT, List.length_cons, List.length_nil, Nat.reduceAdd, Nat.reduceSub, List.replicate, List.set_cons_zero, List.set_cons_succ]
  refine hd_by (v := .int a) (h := h) rfl (hd_by v_abs (hd_by (v := .int b) (h := h) rfl (hd_by v_abs ⟨by decide, ?_⟩)))
  refine xw_inv (fun sl h1 => match sl with | [_, _, _, _, some (.int y)] => y.natAbs | _ => 0) (fun sl h1 => h1 = h ∧ ∃ x y : Nat, sl = [some (.int a), some (.int b), none, some (.int x), some (.int y)] ∧ Nat.gcd x y = Int.gcd a b) ⟨rfl, a.natAbs, b.natAbs, rfl, rfl⟩ ?_
  rintro sl h1 ⟨rfl, x, y, rfl, hg⟩
  simp only [wS, wS1, w, wL, tbl, ttr, Mi.tOr, Mi.tAn, Mi.wAn, Mi.wOr, List.map_cons, List.map_nil, List.cons_append, List.nil_append, List.getElem?_cons_zero, List.getElem?_cons_succ, bindT, bindTs, seqT, List.length_cons, List.length_nil, Nat.reduceAdd, Nat.reduceSub, List.replicate, List.set_cons_zero, List.set_cons_succ]
  by_cases hy : (y : Int) = 0
  · have e0 : truO (.int y) h1 = some false := by show some ((y : Int) != 0) = _; rw [hy]; rfl
    rw [e0]
    have : y = 0 := by omega
    subst this
    rw [Nat.gcd_zero_right] at hg
    subst hg
    dsimp only
    have hg0 : (Int.gcd a b : Int) ≠ 0 := by
      have : Int.gcd a b ≠ 0 := fun z => hb (Int.gcd_eq_zero_iff.mp z).2
      omega
    have sg : Sm 4000 (Int.gcd a b : Int) := by
      have s := sb.sg (a := a) hb
      unfold Mi.sg at s
      split at s
      · have := s.neg
        rw [Int.neg_neg] at this
        exact this
      · exact s
    refine ⟨rfl, ow_by (v := .bl (decide (b < 0))) (h1 := h1) rfl ?_⟩
    have key : ∀ s : Int, s = (if b < 0 then -1 else 1) → wOwn G d (ownO G (dunB .Mult) (.int s) (.int a) h1) (vBin .Mult (.int s) (.int a) h1) h1 (fun v h2 => wOwn G d (ownO G (dunB .FloorDiv) v (.int (Int.gcd a b)) h2) (vBin .FloorDiv v (.int (Int.gcd a b)) h2) h2 (fun v h3 => wOwn G d (ownO G (dunB .Mult) (.int s) (.int b) h3) (vBin .Mult (.int s) (.int b) h3) h3 (fun v2 h4 => wOwn G d (ownO G (dunB .FloorDiv) v2 (.int (Int.gcd a b)) h4) (vBin .FloorDiv v2 (.int (Int.gcd a b)) h4) h4 (fun v3 h5 => 0 + 1 + 1 ≤ sizeLine ∧ Q (.tup [v, v3]) h5) fun c v h1 => E c v h1) fun c v h1 => E c v h1) fun c v h1 => E c v h1) fun c v h1 => E c v h1 := by
      intro s hs
      have ss : Sm 1000 s := by
        rw [hs]
        split
        · exact (Sm.one (by omega)).neg
        · exact Sm.one (by omega)
      refine ow_by (v_mulS ss sa) (ow_by (v_divS hg0 sg) (ow_by (v_mulS ss sb) (ow_by (v_divS hg0 sg) ⟨by decide, ?_⟩)))
      rw [(nu_sg hs).1, (nu_sg hs).2]
      exact q
    by_cases hs : b < 0
    · rw [decide_eq_true hs]
      exact ⟨rfl, ow_by (v := .int (-1)) (h1 := h1) rfl (key (-1) (by rw [if_pos hs]))⟩
    · rw [decide_eq_false hs]
      exact ⟨rfl, key 1 (by rw [if_neg hs])⟩
  · have e0 : truO (.int y) h1 = some true := by
      show some ((y : Int) != 0) = _
      rw [bne_iff_ne.mpr hy]
    rw [e0]
    dsimp only
    refine ow_by (v_mod (by omega)) ⟨by decide, ?_⟩
    refine ⟨⟨rfl, y, x % y, ?_, ?_⟩, ?_⟩
    · rw [Int.fmod_eq_emod_of_nonneg _ (by omega)]
      rfl
    · rw [← hg, Nat.gcd_comm x y, Nat.gcd_rec y x, Nat.gcd_comm]
    · show (Int.fmod x y).natAbs < (y : Int).natAbs
      rw [Int.fmod_eq_emod_of_nonneg _ (by omega)]
      have : ((x : Int) % (y : Int)).natAbs = x % y := by omega
      rw [this]
      have := Nat.mod_lt x (show y > 0 by omega)
      omega
structure FrG (G : Prg) : Prop where
  pair : G.defs[k__law_pair]? = some ⟨2, 5, b__law_pair, []⟩
  plus : G.defs[k__law_plus]? = some ⟨2, 2, b__law_plus, []⟩
  times : G.defs[k__law_times]? = some ⟨2, 2, b__law_times, []⟩
  less : G.defs[k__law_less_by]? = some ⟨2, 2, b__law_less_by, []⟩
theorem ix0 {x y : Val} : vIx (.tup [x, y]) (.int 0) h = .ok x h := rfl
theorem ix1 {x y : Val} : vIx (.tup [x, y]) (.int 1) h = .ok y h := rfl
theorem x_plus (F : FrG G) (hd : 1 ≤ d) (o : Ok2 a b a' b') (q : Q (pr (nu (a * b' + a' * b) (b * b')) (de (a * b' + a' * b) (b * b'))) h) : XC G d k__law_plus [pr a b, pr a' b'] h Q E := by
  refine xc F.plus rfl ?_
  simp only [b__law_plus, wS, wS1, w, wL, tbl, ttr, Mi.tOr, Mi.tAn, Mi.wAn, Mi.wOr, List.map_cons, List.map_nil, List.cons_append, List.nil_append, List.getElem?_cons_zero, List.getElem?_cons_succ, bindT, bindTs, seqT, List.length_cons, List.length_nil, Nat.reduceAdd, Nat.reduceSub, List.replicate, List.set_cons_zero, List.set_cons_succ]
  refine ⟨hd, rfl, hd_by ix0 ⟨rfl, hd_by ix1 (ow_by (v_mulS o.s1 o.s4) ⟨rfl, hd_by ix0 ⟨rfl, hd_by ix1 (ow_by (v_mulS o.s3 o.s2) (ow_by (v := .int (a * b' + a' * b)) (h1 := h) rfl ⟨rfl, hd_by ix1 ⟨rfl, hd_by ix1 (ow_by (v_mulS o.s2 o.s4) ?_)⟩⟩))⟩⟩)⟩⟩
  exact x_pair F.pair (((o.s1.mul o.s4).add (o.s3.mul o.s2)).up (by omega)) ((o.s2.mul o.s4).up (by omega)) (Int.mul_ne_zero o.hb o.hb') q
theorem x_times (F : FrG G) (hd : 1 ≤ d) (o : Ok2 a b a' b') (q : Q (pr (nu (a * a') (b * b')) (de (a * a') (b * b'))) h) : XC G d k__law_times [pr a b, pr a' b'] h Q E := by
  refine xc F.times rfl ?_
  simp only [b__law_times, wS, wS1, w, wL, tbl, ttr, Mi.tOr, Mi.tAn, Mi.wAn, Mi.wOr, List.map_cons, List.map_nil, List.cons_append, List.nil_append, List.getElem?_cons_zero, List.getElem?_cons_succ, bindT, bindTs, seqT, List.length_cons, List.length_nil, Nat.reduceAdd, Nat.reduceSub, List.replicate, List.set_cons_zero, List.set_cons_succ]
  refine ⟨hd, rfl, hd_by ix0 ⟨rfl, hd_by ix0 (ow_by (v_mulS o.s1 o.s3) ⟨rfl, hd_by ix1 ⟨rfl, hd_by ix1 (ow_by (v_mulS o.s2 o.s4) ?_)⟩⟩)⟩⟩
  exact x_pair F.pair ((o.s1.mul o.s3).up (by omega)) ((o.s2.mul o.s4).up (by omega)) (Int.mul_ne_zero o.hb o.hb') q
theorem Ok2.ng (o : Ok2 a b a' b') : Ok2 a b (-a') b' := ⟨o.s1, o.s2, o.s3.neg, o.s4, o.hb, o.hb'⟩
theorem x_less (F : FrG G) (hd : 2 ≤ d) (o : Ok2 a b a' b') (q : Q (pr (nu (a * b' - a' * b) (b * b')) (de (a * b' - a' * b) (b * b'))) h) : XC G d k__law_less_by [pr a b, pr a' b'] h Q E := by
  refine xc F.less rfl ?_
  simp only [b__law_less_by, wS, wS1, w, wL, tbl, ttr, Mi.tOr, Mi.tAn, Mi.wAn, Mi.wOr, List.map_cons, List.map_nil, List.cons_append, List.nil_append, List.getElem?_cons_zero, List.getElem?_cons_succ, bindT, bindTs, seqT, List.length_cons, List.length_nil, Nat.reduceAdd, Nat.reduceSub, List.replicate, List.set_cons_zero, List.set_cons_succ]
  refine ⟨by omega, rfl, hd_by ix0 (ow_by (v := .int (-a')) (h1 := h) rfl ⟨rfl, hd_by ix1 ⟨by decide, x_plus F (by omega) o.ng ?_⟩⟩)⟩
  rw [Int.neg_mul, ← Int.sub_eq_add_neg]
  exact q
/-- Part(one[0], one[1]) of what is in least terms -/
theorem x_made (P : PaG G I) (hG : G.defs[k__law_made]? = some ⟨1, 1, b__law_made, []⟩) (hd : 3 ≤ d) (l : Lo a b) (s : Sm 1000 b) (q : Q (.loc h.length) (h ++ [prt a b])) : XC G d k__law_made [pr a b] h Q E := by
  refine xc hG rfl ?_
  simp only [b__law_made, wS, wS1, w, wL, tbl, ttr, Mi.tOr, Mi.tAn, Mi.wAn, Mi.wOr, List.map_cons, List.map_nil, List.cons_append, List.nil_append, List.getElem?_cons_zero, List.getElem?_cons_succ, bindT, bindTs, seqT, List.length_cons, List.length_nil, Nat.reduceAdd, Nat.reduceSub, List.replicate, List.set_cons_zero, List.set_cons_succ]
  have hb : b ≠ 0 := by have := l.1; omega
  refine ⟨by omega, rfl, hd_by ix0 ⟨rfl, hd_by ix1 (w_mk2 P (by omega) hb s (by omega) (by omega) ?_)⟩⟩
  rw [(lo_self l).1, (lo_self l).2]
  exact q
end
end Mi

set_option Elab.async false
set_option linter.all false
set_option maxRecDepth 100000
set_option maxHeartbeats 1000000
/-! Pe: fractions: properties, repr, divided. -/
namespace Mi
open PySem L2
structure PpG (G : Prg) (I : ClsI) : Prop extends PaG G I where
  num : G.defs[k_Part_number]? = some ⟨1, 1, b_Part_number, []⟩
  und : G.defs[k_Part_under]? = some ⟨1, 1, b_Part_under, []⟩
  p_num : I.props.lookup ("number" : Str) = some k_Part_number
  p_und : I.props.lookup ("under" : Str) = some k_Part_under
section
variable {G : Prg} {I : ClsI} {d : Nat} {h : LH} {Q : Val → LH → Prop} {E : EP} {v : Val} {a b a' b' : Int} {n m : Nat}
theorem szl {n : Nat} (h : Nat.ble n 1000 = true := by rfl) : n ≤ sizeLine := Nat.le_trans (Nat.le_of_ble_eq_true h) (by decide)
theorem fill0 {k p c : Nat} {bd : List IS} {vs : List Val} (e : G.defs[k]? = some ⟨p, c, bd, []⟩) : fillV G k vs = vs := by
  unfold fillV
  rw [e]
  simp
theorem rp_by {y : Val} (e : vRep v h = .ok y h) (k : Q y h) (ho : mthO G v "__repr__" h = none := by rfl) : wRpr G d v h Q E := by
  unfold wRpr
  rw [ho]
  exact hd_by e k
theorem att_pnum (P : PpG G I) (hd : 2 ≤ d) (e : h[n]? = some (prt a b)) (q : Q (.int a) h) : wAtt G d (.loc n) "number" h Q E := by
  unfold wAtt attO
  rw [ins_p e]
  dsimp only
  rw [P.cls]
  dsimp only
  have z : slotI I "number" = none := by unfold slotI; rw [P.slots]; rfl
  rw [z]
  dsimp only
  rw [P.p_num]
  refine ⟨hd, xc P.num rfl ?_⟩
  simp only [b_Part_number, wS, wS1, w, wL, tbl, ttr, Mi.tOr, Mi.tAn, Mi.wAn, Mi.wOr, List.map_cons, List.map_nil, List.cons_append, List.nil_append, List.getElem?_cons_zero, List.getElem?_cons_succ, bindT, bindTs, seqT, List.length_cons, List.length_nil, Nat.reduceAdd, Nat.reduceSub, List.replicate, List.set_cons_zero, List.set_cons_succ]
  exact att_num P.toPaG e q
theorem att_pund (P : PpG G I) (hd : 2 ≤ d) (e : h[n]? = some (prt a b)) (q : Q (.int b) h) : wAtt G d (.loc n) "under" h Q E := by
  unfold wAtt attO
  rw [ins_p e]
  dsimp only
  rw [P.cls]
  dsimp only
  have z : slotI I "under" = none := by unfold slotI; rw [P.slots]; rfl
  rw [z]
  dsimp only
  rw [P.p_und]
  refine ⟨hd, xc P.und rfl ?_⟩
  simp only [b_Part_under, wS, wS1, w, wL, tbl, ttr, Mi.tOr, Mi.tAn, Mi.wAn, Mi.wOr, List.map_cons, List.map_nil, List.cons_append, List.nil_append, List.getElem?_cons_zero, List.getElem?_cons_succ, bindT, bindTs, seqT, List.length_cons, List.length_nil, Nat.reduceAdd, Nat.reduceSub, List.replicate, List.set_cons_zero, List.set_cons_succ]
  exact att_und P.toPaG e q
/-! ### repr -/
def itx (i : Int) : Str := toString i
def reprP (a b : Int) : Str := if b = 1 then Str.empty ++ "Part(" ++ itx a ++ ")" else Str.empty ++ "Part(" ++ itx a ++ ", " ++ itx b ++ ")"
theorem itx_len {i : Int} (s : Sm 1000 i) : (itx i).length ≤ 1001 := int_len s
theorem v_fmtI {i : Int} (s : Sm 1000 i) : vFmt (.int i) h = .ok (.str (itx i)) h := by
  show chk (decide (i.natAbs.log2 < 1920)) _ = _
  rw [decide_eq_true (Nat.lt_trans (s.log (by omega)) (by omega))]
  rfl
theorem len5 : (Str.empty ++ ("Part(" : Str)).length = 5 := rfl
theorem x_repr (P : PaG G I) (e : h[n]? = some (prt a b)) (sa : Sm 1000 a) (sb : Sm 1000 b) (q : Q (.str (reprP a b)) h) : XC G d k_Part_repr_d [.loc n] h Q E := by
  refine xc P.repr rfl ?_
  simp only [b_Part_repr_d, wJs, wS, wS1, w, wL, tbl, ttr, Mi.tOr, Mi.tAn, Mi.wAn, Mi.wOr, List.map_cons, List.map_nil, List.cons_append, List.nil_append, List.getElem?_cons_zero, List.getElem?_cons_succ, bindT, bindTs, seqT, List.length_cons, List.length_nil, Nat.reduceAdd, Nat.reduceSub, List.replicate, List.set_cons_zero, List.set_cons_succ]
  have la := itx_len sa
  have lb := itx_len sb
  have hz : 3000 ≤ sizeLine := by decide
  refine att_und P e ⟨rfl, ow_by (v := .bl (decide (b = 1))) (h1 := h) rfl ?_⟩
  by_cases hb : b = 1
  · rw [decide_eq_true hb]
    have q : Q (.str (Str.empty ++ "Part(" ++ itx a ++ ")")) h := by unfold reprP at q; rw [if_pos hb] at q; exact q
    refine ⟨rfl, by decide, att_num P e (hd_by (v_fmtI sa) ⟨?_, rfl, ?_, q⟩)⟩
    · rw [Str.length_append, len5]; omega
    · rw [Str.length_append, Str.length_append, len5]
      have : ((")" : Str)).length = 1 := rfl
      omega
  · rw [decide_eq_false hb]
    have q : Q (.str (Str.empty ++ "Part(" ++ itx a ++ ", " ++ itx b ++ ")")) h := by unfold reprP at q; rw [if_neg hb] at q; exact q
    have l1 : ((")" : Str)).length = 1 := rfl
    have l2 : ((", " : Str)).length = 2 := rfl
    refine ⟨rfl, by decide, att_num P e (hd_by (v_fmtI sa) ⟨?_, rfl, ?_, att_und P e (hd_by (v_fmtI sb) ⟨?_, rfl, ?_, q⟩)⟩)⟩
    · rw [Str.length_append, len5]; omega
    · rw [Str.length_append, Str.length_append, len5]; omega
    · rw [Str.length_append, Str.length_append, Str.length_append, len5]; omega
    · rw [Str.length_append, Str.length_append, Str.length_append, Str.length_append, len5]; omega
theorem rp_prt (P : PaG G I) (hd : 2 ≤ d) (e : h[n]? = some (prt a b)) (sa : Sm 1000 a) (sb : Sm 1000 b) (q : Q (.str (reprP a b)) h) : wRpr G d (.loc n) h Q E := by
  unfold wRpr
  rw [mth_p P e P.m_repr]
  exact ⟨hd, x_repr P e sa sb ⟨⟨_, rfl⟩, q⟩⟩
/-! ### divided -/
theorem x_div (P : PaG G I) (hD : G.defs[k_Part_divided]? = some ⟨2, 3, b_Part_divided, []⟩) (hd : 5 ≤ d) (e : h[n]? = some (prt a b)) (hv : Num h v a' b') (o : Ok2 a b a' b') (ha : a' ≠ 0) (q : WP h Q (a * b') (b * a')) : XC G d k_Part_divided [.loc n, v] h Q E := by
  refine xc hD rfl ?_
  simp only [b_Part_divided, wS, wS1, w, wL, tbl, ttr, Mi.tOr, Mi.tAn, Mi.wAn, Mi.wOr, List.map_cons, List.map_nil, List.cons_append, List.nil_append, List.getElem?_cons_zero, List.getElem?_cons_succ, bindT, bindTs, seqT, List.length_cons, List.length_nil, Nat.reduceAdd, Nat.reduceSub, List.replicate, List.set_cons_zero, List.set_cons_succ]
  refine ⟨by omega, hv.isn (t := .ty "int") P (by omega) ⟨by omega, x_aspart P (by omega) hv fun m h' x e' => att_num P e' ⟨rfl, ow_by (v := .bl (decide (a' = 0))) (h1 := h') rfl ?_⟩⟩⟩
  rw [decide_eq_false ha]
  refine ⟨by omega, x_aspart P (by omega) (hv.xt x) fun m2 h2 x2 e2 => ⟨by omega, ?_⟩⟩
  have e := (x.trans x2).2 _ _ e
  refine att_num P e (att_und P e2 (ow_by (v_mulS o.s1 o.s4) (att_und P e (att_num P e2 (ow_by (v_mulS o.s2 o.s3) ?_)))))
  exact w_mk2 P (by omega) (Int.mul_ne_zero o.hb ha) (o.s2.mul o.s3) (by omega) (by omega) (q _ _ ((x.trans x2).trans (Xt.app _ _)) at_end)
theorem x_div0 (P : PaG G I) (hD : G.defs[k_Part_divided]? = some ⟨2, 3, b_Part_divided, []⟩) (hd : 5 ≤ d) (hv : Num h v 0 b') (q : ∀ h', Xt h h' → E "BadPart" v h') : XC G d k_Part_divided [.loc n, v] h Q E := by
  refine xc hD rfl ?_
  simp only [b_Part_divided, wS, wS1, w, wL, tbl, ttr, Mi.tOr, Mi.tAn, Mi.wAn, Mi.wOr, List.map_cons, List.map_nil, List.cons_append, List.nil_append, List.getElem?_cons_zero, List.getElem?_cons_succ, bindT, bindTs, seqT, List.length_cons, List.length_nil, Nat.reduceAdd, Nat.reduceSub, List.replicate, List.set_cons_zero, List.set_cons_succ]
  refine ⟨by omega, hv.isn (t := .ty "int") P (by omega) ⟨by omega, x_aspart P (by omega) hv fun m h' x e' => att_num P e' ⟨rfl, ow_by (v := .bl true) (h1 := h') rfl ?_⟩⟩⟩
  exact ⟨P.bad, q h' x⟩
theorem x_divT (P : PaG G I) {t : ClR} (hD : G.defs[k_Part_divided]? = some ⟨2, 3, b_Part_divided, []⟩) (hd : 5 ≤ d) (ht : Ty h v t) (h1 : t ≠ .ty "int") (h2 : t ≠ .own "Part") (q : E "BadPart" v h) : XC G d k_Part_divided [.loc n, v] h Q E := by
  refine xc hD rfl ?_
  simp only [b_Part_divided, wS, wS1, w, wL, tbl, ttr, Mi.tOr, Mi.tAn, Mi.wAn, Mi.wOr, List.map_cons, List.map_nil, List.cons_append, List.nil_append, List.getElem?_cons_zero, List.getElem?_cons_succ, bindT, bindTs, seqT, List.length_cons, List.length_nil, Nat.reduceAdd, Nat.reduceSub, List.replicate, List.set_cons_zero, List.set_cons_succ]
  refine ⟨by omega, x_isnum P (by omega) ht ?_⟩
  rw [decide_eq_false (by intro z; rcases z with z | z; exact h1 z; exact h2 z)]
  exact ⟨P.bad, q⟩
/-! ### operators on either side -/
theorem Ok2.sw (o : Ok2 a b a' b') : Ok2 a' b' a b := ⟨o.s3, o.s4, o.s1, o.s2, o.hb', o.hb⟩
section
variable (P : PaG G I) (hd : 6 ≤ d) (e : h[n]? = some (prt a b)) (hv : Num h v a' b') (o : Ok2 a b a' b') {x : Res Val}
include P hd e hv o
theorem l_lt (q : ∀ h', Xt h h' → Q (.bl (decide (a * b' - a' * b < 0))) h') : wOwn G d (ownO G (dunC .Lt) (.loc n) v h) x h Q E := wo (own_l P rfl P.m_lt P.m_gt e hv) (by omega) (x_lt P (by omega) e hv o q)
theorem l_le (q : ∀ h', Xt h h' → Q (.bl (decide (a * b' - a' * b ≤ 0))) h') : wOwn G d (ownO G (dunC .LtE) (.loc n) v h) x h Q E := wo (own_l P rfl P.m_le P.m_ge e hv) (by omega) (x_le P (by omega) e hv o q)
theorem l_gt (q : ∀ h', Xt h h' → Q (.bl (decide (a * b' - a' * b > 0))) h') : wOwn G d (ownO G (dunC .Gt) (.loc n) v h) x h Q E := wo (own_l P rfl P.m_gt P.m_lt e hv) (by omega) (x_gt P (by omega) e hv o q)
theorem l_ge (q : ∀ h', Xt h h' → Q (.bl (decide (a * b' - a' * b ≥ 0))) h') : wOwn G d (ownO G (dunC .GtE) (.loc n) v h) x h Q E := wo (own_l P rfl P.m_ge P.m_le e hv) (by omega) (x_ge P (by omega) e hv o q)
theorem l_add (q : WP h Q (a * b' + a' * b) (b * b')) : wOwn G d (ownO G (dunB .Add) (.loc n) v h) x h Q E := wo (own_l P rfl P.m_add P.m_radd e hv) (by omega) (x_add P (by omega) e hv o q)
theorem l_sub (q : WP h Q (a * b' - a' * b) (b * b')) : wOwn G d (ownO G (dunB .Sub) (.loc n) v h) x h Q E := wo (own_l P rfl P.m_sub P.m_rsub e hv) (by omega) (x_sub P (by omega) e hv o q)
theorem l_mul (q : WP h Q (a * a') (b * b')) : wOwn G d (ownO G (dunB .Mult) (.loc n) v h) x h Q E := wo (own_l P rfl P.m_mul P.m_rmul e hv) (by omega) (x_mul P (by omega) e hv o q)
theorem r_lt (q : ∀ h', Xt h h' → Q (.bl (decide (a' * b - a * b' < 0))) h') : wOwn G d (ownO G (dunC .Lt) v (.loc n) h) x h Q E := by
  cases hv with
  | int =>
    refine wo (own_r P rfl P.m_lt P.m_gt e) (by omega) (x_gt P (by omega) e (.int a') o fun h' x => ?_)
    have := q h' x
    rw [decide_eq_decide.mpr (show a * 1 - a' * b > 0 ↔ a' * b - a * 1 < 0 by omega)]
    exact this
  | prt e' => exact l_lt P hd e' (.prt e) o.sw q
theorem r_le (q : ∀ h', Xt h h' → Q (.bl (decide (a' * b - a * b' ≤ 0))) h') : wOwn G d (ownO G (dunC .LtE) v (.loc n) h) x h Q E := by
  cases hv with
  | int =>
    refine wo (own_r P rfl P.m_le P.m_ge e) (by omega) (x_ge P (by omega) e (.int a') o fun h' x => ?_)
    have := q h' x
    rw [decide_eq_decide.mpr (show a * 1 - a' * b ≥ 0 ↔ a' * b - a * 1 ≤ 0 by omega)]
    exact this
  | prt e' => exact l_le P hd e' (.prt e) o.sw q
theorem r_gt (q : ∀ h', Xt h h' → Q (.bl (decide (a' * b - a * b' > 0))) h') : wOwn G d (ownO G (dunC .Gt) v (.loc n) h) x h Q E := by
  cases hv with
  | int =>
    refine wo (own_r P rfl P.m_gt P.m_lt e) (by omega) (x_lt P (by omega) e (.int a') o fun h' x => ?_)
    have := q h' x
    rw [decide_eq_decide.mpr (show a * 1 - a' * b < 0 ↔ a' * b - a * 1 > 0 by omega)]
    exact this
  | prt e' => exact l_gt P hd e' (.prt e) o.sw q
theorem r_ge (q : ∀ h', Xt h h' → Q (.bl (decide (a' * b - a * b' ≥ 0))) h') : wOwn G d (ownO G (dunC .GtE) v (.loc n) h) x h Q E := by
  cases hv with
  | int =>
    refine wo (own_r P rfl P.m_ge P.m_le e) (by omega) (x_le P (by omega) e (.int a') o fun h' x => ?_)
    have := q h' x
    rw [decide_eq_decide.mpr (show a * 1 - a' * b ≤ 0 ↔ a' * b - a * 1 ≥ 0 by omega)]
    exact this
  | prt e' => exact l_ge P hd e' (.prt e) o.sw q
theorem r_add (q : WP h Q (a * b' + a' * b) (b * b')) : wOwn G d (ownO G (dunB .Add) v (.loc n) h) x h Q E := by
  cases hv with
  | int => exact wo (own_r P rfl P.m_add P.m_radd e) (by omega) (x_radd P (by omega) e (.int a') o q)
  | prt e' => exact l_add P hd e' (.prt e) o.sw (q.sh (Xt.refl h) (Int.add_comm ..) (Int.mul_comm ..))
theorem r_sub (q : WP h Q (a' * b - a * b') (b * b')) : wOwn G d (ownO G (dunB .Sub) v (.loc n) h) x h Q E := by
  cases hv with
  | int => exact wo (own_r P rfl P.m_sub P.m_rsub e) (by omega) (x_rsub P (by omega) e (.int a') o q)
  | prt e' => exact l_sub P hd e' (.prt e) o.sw (q.sh (Xt.refl h) rfl (Int.mul_comm ..))
theorem r_mul (q : WP h Q (a * a') (b * b')) : wOwn G d (ownO G (dunB .Mult) v (.loc n) h) x h Q E := by
  cases hv with
  | int => exact wo (own_r P rfl P.m_mul P.m_rmul e) (by omega) (x_rmul P (by omega) e (.int a') o q)
  | prt e' => exact l_mul P hd e' (.prt e) o.sw (q.sh (Xt.refl h) (Int.mul_comm ..) (Int.mul_comm ..))
end
theorem l_neg (P : PaG G I) (hd : 4 ≤ d) (e : h[n]? = some (prt a b)) (s2 : Sm 1000 b) (hb : b ≠ 0) {x : Res Val} (q : WP h Q (-a) b) : wOwn G d ((mthO G (.loc n) "__neg__" h).map fun k => (k, [.loc n])) x h Q E := by
  rw [mth_p P e P.m_neg]
  exact ⟨by omega, x_neg P (by omega) e s2 hb q⟩
end
end Mi

set_option Elab.async false
set_option linter.all false
set_option maxRecDepth 100000
set_option maxHeartbeats 0
namespace Lw
open PySem PySem.Spec PyProof.Rows L2 Mi
structure FG (G : Prg) : Prop where
  d_is_integer : G.defs[k_is_integer]? = some ⟨1, 1, b_is_integer, []⟩
  d_is_whole : G.defs[k_is_whole]? = some ⟨1, 2, b_is_whole, []⟩
  d_common : G.defs[k_common]? = some ⟨2, 2, b_common, []⟩
  d_is_number : G.defs[k_is_number]? = some ⟨1, 1, b_is_number, []⟩
  d_as_part : G.defs[k_as_part]? = some ⟨1, 1, b_as_part, []⟩
  d_gap : G.defs[k_gap]? = some ⟨2, 3, b_gap, []⟩
  d_joined : G.defs[k_joined]? = some ⟨3, 4, b_joined, []⟩
  d_multiplied : G.defs[k_multiplied]? = some ⟨2, 2, b_multiplied, []⟩
  d_part_in : G.defs[k_part_in]? = some ⟨1, 5, b_part_in, []⟩
  d__law_pot : G.defs[k__law_pot]? = some ⟨2, 5, b__law_pot, []⟩
  d__law_take : G.defs[k__law_take]? = some ⟨2, 5, b__law_take, []⟩
  d__law_of : G.defs[k__law_of]? = some ⟨2, 2, b__law_of, []⟩
  d__law_cells : G.defs[k__law_cells]? = some ⟨2, 2, b__law_cells, []⟩
  d__law_odd : G.defs[k__law_odd]? = some ⟨1, 2, b__law_odd, []⟩
  d__law_pair : G.defs[k__law_pair]? = some ⟨2, 5, b__law_pair, []⟩
  d__law_part_text : G.defs[k__law_part_text]? = some ⟨1, 1, b__law_part_text, []⟩
  d__law_made : G.defs[k__law_made]? = some ⟨1, 1, b__law_made, []⟩
  d__law_whole : G.defs[k__law_whole]? = some ⟨1, 2, b__law_whole, []⟩
  d__law_fraction_in : G.defs[k__law_fraction_in]? = some ⟨1, 6, b__law_fraction_in, []⟩
  d__law_spoilt : G.defs[k__law_spoilt]? = some ⟨2, 5, b__law_spoilt, []⟩
  d__law_right : G.defs[k__law_right]? = some ⟨1, 9, b__law_right, []⟩
  d_law : G.defs[k_law]? = some ⟨1, 2, b_law, []⟩
  d_Part_init_d : G.defs[k_Part_init_d]? = some ⟨3, 4, b_Part_init_d, [.int 1]⟩
  d_Part_number : G.defs[k_Part_number]? = some ⟨1, 1, b_Part_number, []⟩
  d_Part_under : G.defs[k_Part_under]? = some ⟨1, 1, b_Part_under, []⟩
  d_Part_text : G.defs[k_Part_text]? = some ⟨1, 1, b_Part_text, []⟩
  d_Part_of : G.defs[k_Part_of]? = some ⟨1, 2, b_Part_of, []⟩
  d_Part_repr_d : G.defs[k_Part_repr_d]? = some ⟨1, 1, b_Part_repr_d, []⟩
  d_Part_eq_d : G.defs[k_Part_eq_d]? = some ⟨2, 2, b_Part_eq_d, []⟩
  d_Part_lt_d : G.defs[k_Part_lt_d]? = some ⟨2, 2, b_Part_lt_d, []⟩
  d_Part_le_d : G.defs[k_Part_le_d]? = some ⟨2, 2, b_Part_le_d, []⟩
  d_Part_gt_d : G.defs[k_Part_gt_d]? = some ⟨2, 2, b_Part_gt_d, []⟩
  d_Part_ge_d : G.defs[k_Part_ge_d]? = some ⟨2, 2, b_Part_ge_d, []⟩
  d_Part_neg_d : G.defs[k_Part_neg_d]? = some ⟨1, 1, b_Part_neg_d, []⟩
  d_Part_add_d : G.defs[k_Part_add_d]? = some ⟨2, 2, b_Part_add_d, []⟩
  d_Part_radd_d : G.defs[k_Part_radd_d]? = some ⟨2, 2, b_Part_radd_d, []⟩
  d_Part_sub_d : G.defs[k_Part_sub_d]? = some ⟨2, 2, b_Part_sub_d, []⟩
  d_Part_rsub_d : G.defs[k_Part_rsub_d]? = some ⟨2, 2, b_Part_rsub_d, []⟩
  d_Part_mul_d : G.defs[k_Part_mul_d]? = some ⟨2, 2, b_Part_mul_d, []⟩
  d_Part_rmul_d : G.defs[k_Part_rmul_d]? = some ⟨2, 2, b_Part_rmul_d, []⟩
  c_Part : G.cls.lookup ("Part" : Str) = some I_Part
  errs : G.errs = errs
  isi : G.isiT = tI
theorem fg : FG G :=
  { d_is_integer := by kernel_rfl, d_is_whole := by kernel_rfl, d_common := by kernel_rfl, d_is_number := by kernel_rfl, d_as_part := by kernel_rfl, d_gap := by kernel_rfl, d_joined := by kernel_rfl, d_multiplied := by kernel_rfl, d_part_in := by kernel_rfl, d__law_pot := by kernel_rfl, d__law_take := by kernel_rfl, d__law_of := by kernel_rfl, d__law_cells := by kernel_rfl, d__law_odd := by kernel_rfl, d__law_pair := by kernel_rfl, d__law_part_text := by kernel_rfl, d__law_made := by kernel_rfl, d__law_whole := by kernel_rfl, d__law_fraction_in := by kernel_rfl, d__law_spoilt := by kernel_rfl, d__law_right := by kernel_rfl, d_law := by kernel_rfl, d_Part_init_d := by kernel_rfl, d_Part_number := by kernel_rfl, d_Part_under := by kernel_rfl, d_Part_text := by kernel_rfl, d_Part_of := by kernel_rfl, d_Part_repr_d := by kernel_rfl, d_Part_eq_d := by kernel_rfl, d_Part_lt_d := by kernel_rfl, d_Part_le_d := by kernel_rfl, d_Part_gt_d := by kernel_rfl, d_Part_ge_d := by kernel_rfl, d_Part_neg_d := by kernel_rfl, d_Part_add_d := by kernel_rfl, d_Part_radd_d := by kernel_rfl, d_Part_sub_d := by kernel_rfl, d_Part_rsub_d := by kernel_rfl, d_Part_mul_d := by kernel_rfl, d_Part_rmul_d := by kernel_rfl, c_Part := by kernel_rfl, errs := rfl, isi := rfl }
section
variable {G : Prg} (F : FG G)
include F
theorem pa : PaG G I_Part :=
  { isint := F.d_is_integer, common := F.d_common, isnum := F.d_is_number, aspart := F.d_as_part, gap := F.d_gap, joined := F.d_joined, mult := F.d_multiplied, init := F.d_Part_init_d, repr := F.d_Part_repr_d, eq := F.d_Part_eq_d, lt := F.d_Part_lt_d, le := F.d_Part_le_d, gt := F.d_Part_gt_d, ge := F.d_Part_ge_d, neg := F.d_Part_neg_d, add := F.d_Part_add_d, radd := F.d_Part_radd_d, sub := F.d_Part_sub_d, rsub := F.d_Part_rsub_d, mul := F.d_Part_mul_d, rmul := F.d_Part_rmul_d, cls := F.c_Part, slots := rfl, i0 := rfl, m_repr := rfl, m_eq := rfl, m_lt := rfl, m_le := rfl, m_gt := rfl, m_ge := rfl, m_neg := rfl, m_add := rfl, m_radd := rfl, m_sub := rfl, m_rsub := rfl, m_mul := rfl, m_rmul := rfl
    i_int := by rw [F.isi]; decide +kernel, i_bool := by rw [F.isi]; decide +kernel, i_part := by rw [F.isi]; decide +kernel, bad := by rw [F.errs]; rfl }
theorem pp : PpG G I_Part := { pa F with num := F.d_Part_number, und := F.d_Part_under, p_num := rfl, p_und := rfl }
end
end Lw

set_option Elab.async false
set_option linter.all false
set_option maxRecDepth 100000
set_option maxHeartbeats 1000000
/-! Pf: texts of whole numbers and fractions, in plain lists of signs. -/
namespace Mi
open PySem L2 PySem.NumText PyProof.Rows
def cp (x : Str) : List Nat := x.cps.toList
theorem cp_ext {x y : Str} (h : cp x = cp y) : x = y := Str.ext' (Array.toList_inj.mp h)
theorem cp_app (x y : Str) : cp (x ++ y) = cp x ++ cp y := by
  show (x.cps ++ y.cps).toList = _
  rw [Array.toList_append]
  rfl
theorem cp_len (x : Str) : x.length = (cp x).length := by
  show x.cps.size = x.cps.toList.length
  simp
theorem cp_nat (m : Nat) : cp (itx m) = (Nat.toDigits 10 m).map Char.toNat := PySem.W.KIN.signs_num m
theorem cp_neg {m : Nat} (h : 0 < m) : cp (itx (-(m : Int))) = 45 :: cp (itx m) := by
  obtain ⟨k, rfl⟩ : ∃ k, m = k + 1 := ⟨m - 1, by omega⟩
  have e : (-((k + 1 : Nat) : Int)) = Int.negSucc k := rfl
  rw [e]
  show (PySem.Str.ofString (toString (Int.negSucc k))).cps.toList = 45 :: (PySem.Str.ofString (toString (((k + 1 : Nat) : Int)))).cps.toList
  rw [signs_ofString, signs_ofString]
  show (("-" ++ Nat.repr (k + 1)) : String).toList.map Char.toNat = 45 :: (Nat.repr (k + 1)).toList.map Char.toNat
  rw [String.toList_append]
  rfl
theorem nat_dig (m : Nat) : AllDigits (cp (itx m)) := by
  intro c hc
  rw [cp_nat] at hc
  obtain ⟨ch, hch, e⟩ := List.mem_map.mp hc
  have r := digit_range (Nat.isDigit_of_mem_toDigits (by decide) (by decide) hch)
  rw [← e]
  exact r
theorem nat_val (m : Nat) : digitsVal (cp (itx m)) = m := by rw [cp_nat]; exact PySem.W.KIN.val_back m
theorem itx_nat {m n : Nat} (h : cp (itx m) = cp (itx n)) : m = n := by rw [← nat_val m, h, nat_val]
/-- a word that writes a number from 0 on -/
structure Who (cs : List Nat) : Prop where
  ne : cs ≠ []
  dg : AllDigits cs
  hd : cs = [48] ∨ cs.head? ≠ some 48
theorem Who.txt {cs : List Nat} (h : Who cs) : cp (itx (digitsVal cs)) = cs := by
  rw [cp_nat]
  obtain ⟨c, r, rfl⟩ : ∃ c r, cs = c :: r := by
    cases cs with
    | nil => exact absurd rfl h.ne
    | cons c r => exact ⟨c, r, rfl⟩
  have hm : (c :: r).map Char.ofNat = Nat.toDigits 10 (digitsVal (c :: r)) := by
    refine (toDigits_digitsVal r.length (c :: r) rfl h.dg ?_).symm
    rcases h.hd with e | e
    · left
      cases e
      rfl
    · right
      refine ⟨c, r, rfl, ?_⟩
      have := h.dg c (List.mem_cons_self ..)
      have : c ≠ 48 := fun z => e (by rw [z]; rfl)
      omega
  rw [← hm, List.map_map]
  have id : ∀ x ∈ (c :: r), (Char.toNat ∘ Char.ofNat) x = x := fun x hx => by
    have := h.dg x hx
    have e : x = 48 ∨ x = 49 ∨ x = 50 ∨ x = 51 ∨ x = 52 ∨ x = 53 ∨ x = 54 ∨ x = 55 ∨ x = 56 ∨ x = 57 := by omega
    rcases e with rfl | rfl | rfl | rfl | rfl | rfl | rfl | rfl | rfl | rfl <;> rfl
  exact (List.map_congr_left id).trans (List.map_id _)
theorem Who.int {w : Str} (h : Who (cp w)) (hl : w.length ≤ 640) : PySem.intText? w = some ((digitsVal (cp w) : Nat) : Int) := intText_digits h.dg h.ne (by omega)
theorem itx_no {i : Int} : 47 ∉ cp (itx i) := int_text_free' 47 ⟨by decide, by decide⟩ i
/-- two texts cut at their only stroke -/
theorem stroke {a b c d : List Nat} (ha : 47 ∉ a) (hc : 47 ∉ c) (h : a ++ 47 :: b = c ++ 47 :: d) : a = c ∧ b = d := by
  induction a generalizing c with
  | nil =>
    cases c with
    | nil => exact ⟨rfl, (List.cons.inj h).2⟩
    | cons x c => exact absurd (by rw [(List.cons.inj h).1]; exact List.mem_cons_self ..) hc
  | cons x a ih =>
    cases c with
    | nil => exact absurd (by rw [← (List.cons.inj h).1]; exact List.mem_cons_self ..) ha
    | cons y c =>
      obtain ⟨e1, e2⟩ := List.cons.inj h
      obtain ⟨e3, e4⟩ := ih (fun z => ha (List.mem_cons_of_mem _ z)) (fun z => hc (List.mem_cons_of_mem _ z)) e2
      exact ⟨by rw [e1, e3], e4⟩
/-- the sign ahead -/
def sgn (s : Bool) : List Nat := if s then [45] else []
def sv (s : Bool) (n : Nat) : Int := if s then -(n : Int) else n
theorem sgn_txt {s : Bool} {n : Nat} {p : Int} : cp (itx p) = sgn s ++ cp (itx n) ↔ p = sv s n ∧ ¬ (s = true ∧ n = 0) := by
  have hd : ∀ m : Nat, ∃ c r, cp (itx m) = c :: r ∧ 48 ≤ c := fun m => by
    cases e : cp (itx m) with
    | nil =>
      have h := toDigits_len_ge 10 m
      rw [cp_nat] at e
      rw [List.map_eq_nil_iff.mp e] at h
      exact absurd h (by decide)
    | cons c r => exact ⟨c, r, rfl, (nat_dig m c (by rw [e]; exact List.mem_cons_self ..)).1⟩
  have neg : ∀ m : Nat, 0 < m → ∀ k : Nat, cp (itx (-(m : Int))) ≠ cp (itx k) := fun m hm k z => by
    rw [cp_neg hm] at z
    obtain ⟨c, r, e, h⟩ := hd k
    rw [e] at z
    have := (List.cons.inj z).1
    omega
  have pos : p = ((p.natAbs : Nat) : Int) ∨ (p = -((p.natAbs : Nat) : Int) ∧ 0 < p.natAbs) := by omega
  cases s with
  | false =>
    show cp (itx p) = [] ++ cp (itx n) ↔ p = (n : Int) ∧ _
    rw [List.nil_append]
    constructor
    · intro h
      rcases pos with e | ⟨e, h0⟩
      · rw [e] at h ⊢
        exact ⟨by rw [itx_nat h], fun z => by cases z.1⟩
      · rw [e] at h
        exact absurd h (neg _ h0 n)
    · rintro ⟨rfl, _⟩
      rfl
  | true =>
    show cp (itx p) = [45] ++ cp (itx n) ↔ p = -(n : Int) ∧ _
    constructor
    · intro h
      rcases pos with e | ⟨e, h0⟩
      · rw [e] at h
        obtain ⟨c, r, e2, h2⟩ := hd p.natAbs
        rw [e2] at h
        have := (List.cons.inj h).1
        omega
      · rw [e, cp_neg h0] at h
        have := itx_nat (List.cons.inj h).2
        exact ⟨by omega, fun z => by omega⟩
    · rintro ⟨rfl, h⟩
      exact cp_neg (by
        rcases Nat.eq_zero_or_pos n with z | z
        · exact absurd ⟨rfl, z⟩ h
        · exact z)
/-- the text of a fraction in least terms -/
def ptx (p q : Int) : Str := if q = 1 then itx p else Str.empty ++ itx p ++ "/" ++ itx q
theorem cp_ptx {p q : Int} (h : q ≠ 1) : cp (ptx p q) = cp (itx p) ++ 47 :: cp (itx q) := by
  unfold ptx
  rw [if_neg h, cp_app, cp_app, cp_app]
  show ([] ++ cp (itx p)) ++ [47] ++ cp (itx q) = _
  simp
/-- a text with a stroke is that of the fraction that it writes, just where this is in least terms -/
theorem two_txt {s : Bool} {n m : Nat} (hm : 0 < m) {t : Str} (ht : cp t = sgn s ++ (cp (itx n) ++ 47 :: cp (itx m))) :
    ptx (nu (sv s n) m) (de (sv s n) m) = t ↔ (2 ≤ m ∧ nu n m = (n : Int) ∧ de n m = (m : Int)) := by
  have hm0 : (m : Int) ≠ 0 := by omega
  have l := lo_nd (a := sv s n) hm0
  have sn : 47 ∉ sgn s ++ cp (itx n) := by
    intro z
    rcases List.mem_append.mp z with z | z
    · cases s
      · cases z
      · simp [sgn] at z
    · exact itx_no z
  constructor
  · intro h
    by_cases hq : de (sv s n) m = 1
    · exfalso
      have e : cp (ptx (nu (sv s n) m) (de (sv s n) m)) = cp (itx (nu (sv s n) m)) := by unfold ptx; rw [if_pos hq]
      rw [h, ht] at e
      have : 47 ∈ cp (itx (nu (sv s n) m)) := by rw [← e]; simp
      exact itx_no this
    · have e := cp_ptx (p := nu (sv s n) m) hq
      rw [h, ht, ← List.append_assoc] at e
      obtain ⟨e1, e2⟩ := stroke sn itx_no e
      obtain ⟨e3, e4⟩ := sgn_txt.mp e1.symm
      have hp : de (sv s n) m = (m : Int) := by
        have := (sgn_txt (s := false) (n := m)).mp (show cp (itx (de (sv s n) m)) = sgn false ++ cp (itx m) from e2.symm)
        exact this.1
      have l2 : Lo (sv s n) m := by rw [e3, hp] at l; exact l
      have l3 : Lo (n : Int) m := by
        cases s
        · exact l2
        · have h2 := l2.2
          unfold sv at h2
          rw [if_pos rfl, Int.neg_gcd] at h2
          exact ⟨l2.1, h2⟩
      refine ⟨?_, lo_self l3⟩
      have := l.1
      omega
  · rintro ⟨h2, h3, h4⟩
    have l3 : Lo (n : Int) m := by
      have := lo_nd (a := (n : Int)) hm0
      rw [h3, h4] at this
      exact this
    have l2 : Lo (sv s n) m := by
      cases s
      · exact l3
      · refine ⟨l3.1, ?_⟩
        unfold sv
        rw [if_pos rfl, Int.neg_gcd]
        exact l3.2
    obtain ⟨e1, e2⟩ := lo_self l2
    have hn : n ≠ 0 := by
      rintro rfl
      have := l3.2
      simp at this
      omega
    rw [e1, e2]
    refine cp_ext ?_
    rw [cp_ptx (by omega), ht, (sgn_txt (s := s) (n := n)).mpr ⟨rfl, fun z => hn z.2⟩, List.append_assoc]
end Mi

set_option Elab.async false
set_option linter.all false
set_option maxRecDepth 100000
set_option maxHeartbeats 1000000
/-! Pg: comprehensions over a list of values; words of figures; Part.text, Part.of. -/
namespace Mi
open PySem L2 PySem.NumText PyProof.Rows
section
variable {G : Prg} {d : Nat} {tg : ITg} {el : IE} {ow : List Nat} {s : Src} {sl : LS} {h : LH} {Q : Val → LH → Prop} {E : EP}
/-- [f(v) for v in ..]: the items are its, the heap grows alone -/
theorem xl_map (its : List Val) (f : Val → Val) (hi : ∀ h' i, Xt h h' → item s i h' = some its[i]?) (hl : its.length < sizeLine)
    (hs : ∀ v ∈ its, ∀ (h' : LH) (K : Val → LH → Prop), Xt h h' → (∀ h2, Xt h' h2 → K (f v) h2) → ∃ sl1, bindT tg v sl = some sl1 ∧ (w G d el).1 sl1 h' K noX)
    (he : ∀ h', Xt h h' → h'[h.length]? = some (.lst (its.map f)) → Q (.loc h.length) h') : XLc G d tg [] el ow s 0 h.length sl (h ++ [.lst []]) Q E := by
  refine xl_inv its.length (fun i h' => Xt h h' ∧ h'[h.length]? = some (.lst ((its.take i).map f))) ⟨Xt.app _ _, at_end⟩ (fun i h' hlt ⟨x, e⟩ => ?_) fun h' ⟨x, e⟩ => ?_
  · obtain ⟨sl1, e1, e2⟩ := hs its[i] (List.getElem_mem hlt) h' (fun y h1 => ∃ acc, h1[h.length]? = some (.lst acc) ∧ acc.length < sizeLine ∧ (Xt h (h1.set h.length (.lst (acc ++ [y]))) ∧ (h1.set h.length (.lst (acc ++ [y])))[h.length]? = some (.lst ((its.take (i + 1)).map f)))) x fun h2 x2 => by
      have e2 := x2.2 _ _ e
      refine ⟨_, e2, ?_, ⟨?_, fun k o ek => ?_⟩, ?_⟩
      · rw [List.length_map, List.length_take]
        omega
      · rw [List.length_set]
        exact Nat.le_trans x.1 x2.1
      · rw [List.getElem?_set_ne (by have := (List.getElem?_eq_some_iff.mp ek).1; omega)]
        exact x2.2 _ _ (x.2 _ _ ek)
      · rw [List.getElem?_set_self (List.getElem?_eq_some_iff.mp e2).1, List.take_succ, List.getElem?_eq_getElem hlt, List.map_append]
        rfl
    exact ⟨its[i], sl1, by rw [hi h' i x, List.getElem?_eq_getElem hlt], e1, e2⟩
  · refine ⟨by rw [hi h' _ x, List.getElem?_eq_none (Nat.le_refl _)], he h' x ?_⟩
    rw [e, List.take_length]
end
/-! ### figures -/
def fig (c : Nat) : Bool := decide (48 ≤ c ∧ c ≤ 57)
def figs : Str := "0123456789"
theorem occ_fig (c : Nat) : (!(Builtin.Str.occurrences figs ⟨#[c]⟩ 0 figs.length 1).isEmpty) = fig c := by
  by_cases hc : 48 ≤ c ∧ c ≤ 57
  · have e : c = 48 ∨ c = 49 ∨ c = 50 ∨ c = 51 ∨ c = 52 ∨ c = 53 ∨ c = 54 ∨ c = 55 ∨ c = 56 ∨ c = 57 := by omega
    rcases e with rfl | rfl | rfl | rfl | rfl | rfl | rfl | rfl | rfl | rfl <;> decide +kernel
  · have z : Builtin.Str.occurrences figs ⟨#[c]⟩ 0 figs.length 1 = [] := by
      refine PySem.W.occ_nil_of_no _ _ 1 fun i hi => ?_
      have hf : ∀ x ∈ figs.cps.toList, 48 ≤ x ∧ x ≤ 57 := by decide
      show (figs.cps.extract i (i + 1) == #[c]) = false
      refine Bool.eq_false_iff.mpr fun q => hc ?_
      have q := eq_of_beq q
      have : c ∈ (figs.cps.extract i (i + 1)).toList := by rw [q]; simp
      rw [Array.toList_extract] at this
      exact hf c (List.mem_of_mem_drop (List.mem_of_mem_take this))
    rw [z]
    unfold fig
    rw [decide_eq_false hc]
    rfl
theorem v_fig {c : Nat} {h : LH} : vCmp .In (.str ⟨#[c]⟩) (.str figs) h = .ok (.bl (fig c)) h := by
  show ofB (some (!(Builtin.Str.occurrences figs ⟨#[c]⟩ 0 figs.length 1).isEmpty)) h = _
  rw [occ_fig]
  rfl
/-- is a word one that writes a number from 0 on -/
def isW (w : Str) : Bool := !decide (cp w = []) && ((cp w).all fig && (decide (cp w = [48]) || !decide ((cp w).head? = some 48)))
theorem isW_who {w : Str} : isW w = true ↔ Who (cp w) := by
  unfold isW
  simp only [Bool.and_eq_true, Bool.not_eq_true', decide_eq_false_iff_not, Bool.or_eq_true, decide_eq_true_eq, List.all_eq_true, fig]
  exact ⟨fun ⟨a, b, c⟩ => ⟨a, b, c⟩, fun ⟨a, b, c⟩ => ⟨a, b, c⟩⟩
theorem bls_map (cs : List Nat) : blsOf (cs.map fun c => Val.bl (fig c)) = some (cs.map fig) := by
  induction cs with
  | nil => rfl
  | cons c cs ih => rw [List.map_cons]; unfold blsOf; rw [ih]; rfl
theorem v_all {h : LH} {n : Nat} {xs : List Val} {bs : List Bool} (e : h[n]? = some (.lst xs)) (eb : blsOf xs = some bs) : vBi .all [.loc n] h = .ok (.bl (bs.all id)) h := by
  unfold vBi
  dsimp only
  have : seqL (.loc n) h = some xs := by
    unfold seqL
    dsimp only
    rw [e]
  rw [this]
  dsimp only [Option.bind]
  rw [eb]
theorem eq_s {a b : Str} {h : LH} : vCmp .Eq (.str a) (.str b) h = .ok (.bl (decide (a = b))) h := rfl
theorem ne_s {a b : Str} {h : LH} : vCmp .NotEq (.str a) (.str b) h = .ok (.bl (!decide (a = b))) h := rfl
structure TxG (G : Prg) (I : ClsI) : Prop extends PpG G I where
  whole : G.defs[k_is_whole]? = some ⟨1, 2, b_is_whole, []⟩
  partin : G.defs[k_part_in]? = some ⟨1, 5, b_part_in, []⟩
  text : G.defs[k_Part_text]? = some ⟨1, 1, b_Part_text, []⟩
  of : G.defs[k_Part_of]? = some ⟨1, 2, b_Part_of, []⟩
  p_text : I.props.lookup ("text" : Str) = some k_Part_text
  badT : G.errs.contains ("BadText" : Str) = true
  i_str : ∀ t, t ∈ tys → isiL G.isiT t (.ty "str") = some (decide (t = .ty "str"))
section
variable {G : Prg} {I : ClsI} {d : Nat} {h : LH} {Q : Val → LH → Prop} {E : EP} {v : Val} {a b : Int} {n m : Nat} {x : Str}
/-- all([sign in FIGURES for sign in word]) -/
theorem l_figs {sl sl' : LS} {j : Nat} (hx : x.length ≤ 10000) (hw : sl' = wipeL sl [j]) (hj : j < sl.length) (q : ∀ h', Xt h h' → Q (.bl ((cp x).all fig)) h') :
    XLc G d (.nm j) [] (IE.cmp .In (.var j) (.cst (.str figs))) [j] (.chr x) 0 h.length sl' (h ++ [.lst []]) (fun v h1 => Hd (vBi .all [v] h1) Q E) E := by
  subst hw
  refine xl_map ((cp x).map fun c => .str ⟨#[c]⟩) (fun v => match v with | .str y => .bl ((cp y).all fig) | v => v) (fun h' i _ => ?_) (by rw [List.length_map, ← cp_len]; exact Nat.lt_of_le_of_lt hx (by decide)) (fun v hv h' K _ k => ?_) fun h' x' e => ?_
  · show (match x.cps[i]? with
      | some c => some (some (Val.str ⟨#[c]⟩))
      | none => some none) = _
    rw [List.getElem?_map]
    show _ = some (x.cps.toList[i]?.map _)
    rw [Array.getElem?_toList]
    cases x.cps[i]? <;> rfl
  · obtain ⟨c, hc, rfl⟩ := List.mem_map.mp hv
    refine ⟨_, rfl, ?_⟩
    have e : ((wipeL sl [j]).set j (some (Val.str ⟨#[c]⟩)))[j]? = some (some (.str ⟨#[c]⟩)) := List.getElem?_set_self (by simp [wipeL, hj])
    simp only [w, e]
    refine ⟨rfl, ow_by v_fig ?_⟩
    have := k h' (Xt.refl _)
    simpa [cp] using this
  · have e2 : h'[h.length]? = some (.lst ((cp x).map fun c => .bl (fig c))) := by
      rw [e, List.map_map]
      congr 2
      refine List.map_congr_left fun c _ => ?_
      simp [cp]
    refine hd_by (v_all e2 (bls_map _)) ?_
    rw [List.all_map]
    exact q h' x'
theorem ix_s0 {c : Nat} {r : List Nat} (hx : x.length ≤ sizeLine) (hc : cp x = c :: r) : vIx (.str x) (.int 0) h = .ok (.str ⟨#[c]⟩) h := by
  show chk (decide (x.length ≤ sizeLine)) (ofO ((atI (cp x) 0).map fun c => .str ⟨#[c]⟩) h) = _
  rw [decide_eq_true hx, hc]
  have e : atI (c :: r) 0 = some c := by
    unfold atI ixN
    simp
  rw [e]
  rfl
theorem x_whole (P : TxG G I) (hx : x.length ≤ 10000) (q : ∀ h', Xt h h' → Q (.bl (isW x)) h') : XC G d k_is_whole [.str x] h Q E := by
  refine xc P.whole rfl ?_
  simp only [b_is_whole, wS, wS1, w, wL, tbl, ttr, Mi.tOr, Mi.tAn, Mi.wAn, Mi.wOr, List.map_cons, List.map_nil, List.cons_append, List.nil_append, List.getElem?_cons_zero, List.getElem?_cons_succ, bindT, bindTs, seqT, List.length_cons, List.length_nil, Nat.reduceAdd, Nat.reduceSub, List.replicate, List.set_cons_zero, List.set_cons_succ]
  refine ⟨rfl, ow_by eq_s ?_⟩
  by_cases h0 : x = ("" : Str)
  · rw [decide_eq_true h0]
    refine ⟨rfl, ?_⟩
    have : isW x = false := by rw [h0]; decide
    rw [← this]
    exact q h (Xt.refl h)
  · rw [decide_eq_false h0]
    have hne : cp x ≠ [] := fun z => h0 (cp_ext z)
    refine ⟨.chr x, rfl, l_figs hx rfl (by simp) fun h1 x1 => ?_⟩
    dsimp only [truO]
    cases ha : (cp x).all fig with
    | false =>
      refine ⟨rfl, ?_⟩
      have : isW x = false := by unfold isW; rw [ha]; simp
      rw [← this]
      exact q h1 x1
    | true =>
      have q := q h1 x1
      refine ⟨rfl, ow_by eq_s ?_⟩
      have e48 : cp ("0" : Str) = [48] := by decide
      by_cases h2 : x = ("0" : Str)
      · rw [decide_eq_true h2]
        have : isW x = true := by rw [h2]; decide
        rw [this] at q
        exact q
      · rw [decide_eq_false h2]
        have h3 : cp x ≠ [48] := fun z => h2 (cp_ext (z.trans e48.symm))
        obtain ⟨c, r, hc⟩ : ∃ c r, cp x = c :: r := by
          cases e : cp x with
          | nil => exact absurd e hne
          | cons c r => exact ⟨c, r, rfl⟩
        refine ⟨rfl, hd_by (ix_s0 (Nat.le_trans hx (by decide)) hc) ⟨rfl, ne_by ne_s ?_⟩⟩
        have : isW x = !decide ((⟨#[c]⟩ : Str) = ("0" : Str)) := by
          unfold isW
          rw [ha, decide_eq_false hne, decide_eq_false h3, hc]
          simp only [Bool.not_false, Bool.true_and, Bool.false_or, List.head?_cons, Option.some.injEq]
          congr 1
          refine decide_eq_decide.mpr ⟨fun z => by rw [z]; rfl, fun z => ?_⟩
          have := congrArg cp z
          exact (List.cons.inj this).1
        rw [this] at q
        exact q
end
end Mi

set_option Elab.async false
set_option linter.all false
set_option maxRecDepth 100000
set_option maxHeartbeats 1000000
/-! Ph: Part.text, part_in, Part.of. -/
namespace Mi
open PySem L2 PySem.NumText PyProof.Rows
/-! ### reading a text -/
def ng (t : Str) : Bool := decide ((cp t).head? = some 45)
def rst (t : Str) : Str := if ng t then ⟨((cp t).drop 1).toArray⟩ else t
def wds (t : Str) : List Str := Txt.split (rst t) "/"
def vl (w : Str) : Nat := digitsVal (cp w)
def rd1 (s : Bool) (x : Str) : Option (Int × Int) := if isW x = true ∧ ¬ (s = true ∧ vl x = 0) then some (sv s (vl x), 1) else none
def rd2 (s : Bool) (x y : Str) : Option (Int × Int) := if isW x = true ∧ isW y = true ∧ 2 ≤ vl y ∧ nu (vl x) (vl y) = (vl x : Int) ∧ de (vl x) (vl y) = (vl y : Int) then some (sv s (vl x), (vl y : Int)) else none
/-- the fraction that a text writes -/
def rdg (t : Str) : Option (Int × Int) := match wds t with
  | [x] => rd1 (ng t) x
  | [x, y] => rd2 (ng t) x y
  | _ => none
theorem cp_rst (t : Str) : cp t = sgn (ng t) ++ cp (rst t) := by
  unfold rst
  cases h : ng t with
  | false => rfl
  | true =>
    have h := of_decide_eq_true h
    rw [if_pos rfl]
    show cp t = [45] ++ (((cp t).drop 1).toArray).toList
    cases e : cp t with
    | nil => rw [e] at h; cases h
    | cons c r =>
      rw [e] at h
      cases h
      rfl
theorem rst_le (t : Str) : (rst t).length ≤ t.length := by
  rw [cp_len, cp_len, cp_rst t, List.length_append]
  omega
theorem join_wds (t : Str) : Str.join "/" (wds t) = rst t := StrLaws.join_split _ _
theorem mem_join {y x : Str} : ∀ {ws : List Str}, x ∈ ws → x.length ≤ (Str.join y ws).length
  | [z], h => by
    cases List.mem_singleton.mp h
    exact Nat.le_refl _
  | z :: z2 :: ws, h => by
    have e : Str.join y (z :: z2 :: ws) = z ++ y ++ Str.join y (z2 :: ws) := rfl
    rw [e, Str.length_append, Str.length_append]
    rcases List.mem_cons.mp h with rfl | h
    · omega
    · have := mem_join (y := y) h
      omega
theorem wd_le {t x : Str} (h : x ∈ wds t) : x.length ≤ t.length := by
  have := mem_join (y := "/") h
  rw [join_wds] at this
  have := rst_le t
  omega
theorem wds_pos (t : Str) : 1 ≤ (wds t).length := split_pos _ _
theorem wds_le (t : Str) : (wds t).length ≤ t.length + 2 := by
  have := split_le (rst t) "/"
  have := rst_le t
  unfold wds
  omega
theorem sub0 (t : Str) (c : Nat) : Builtin.Str.subAt t ⟨#[c]⟩ 0 = decide ((cp t).head? = some c) := by
  show (t.cps.extract 0 (0 + 1) == #[c]) = _
  refine Bool.eq_iff_iff.mpr ⟨fun q => decide_eq_true ?_, fun q => ?_⟩
  · have q := congrArg Array.toList (eq_of_beq q)
    rw [Array.toList_extract] at q
    unfold cp
    cases e : t.cps.toList with
    | nil => rw [e] at q; simp at q
    | cons x r =>
      rw [e] at q
      simp at q
      rw [q]
      rfl
  · have q := of_decide_eq_true q
    refine beq_iff_eq.mpr (Array.toList_inj.mp ?_)
    rw [Array.toList_extract]
    unfold cp at q
    cases e : t.cps.toList with
    | nil => rw [e] at q; cases q
    | cons x r =>
      rw [e] at q
      cases q
      rfl
theorem rm_eq (t : Str) : Txt.removeprefix t "-" = rst t := by
  unfold Txt.removeprefix rst ng
  have e : ("-" : Str) = ⟨#[45]⟩ := by decide
  rw [e, sub0]
  cases h : decide ((cp t).head? = some 45) with
  | false => rfl
  | true =>
    have h := of_decide_eq_true h
    rw [if_pos rfl, if_pos rfl]
    obtain ⟨r, hr⟩ : ∃ r, cp t = 45 :: r := by
      cases e : cp t with
      | nil => rw [e] at h; cases h
      | cons c r => rw [e] at h; cases h; exact ⟨r, rfl⟩
    have hl : t.length = r.length + 1 := by rw [cp_len, hr]; rfl
    show (if (t.length - 1 == t.length) = true then t else Builtin.Str.strSub t 1 t.length) = _
    rw [if_neg (by simp; omega)]
    refine cp_ext ?_
    show (Builtin.Str.strSub t 1 t.length).cps.toList = ((cp t).drop 1).toArray.toList
    rw [StrLaws.strSub_toList]
    show ((cp t).drop 1).take (t.length - 1) = (cp t).drop 1
    refine List.take_of_length_le ?_
    rw [List.length_drop, ← cp_len]
    exact Nat.le_refl _
theorem st_eq (t : Str) : Txt.startswith t "-" = ng t := by
  unfold Txt.startswith ng
  have e : ("-" : Str) = ⟨#[45]⟩ := by decide
  rw [e, sub0]
  cases h : decide ((cp t).head? = some 45) with
  | false => rw [Bool.and_false]
  | true =>
    have h := of_decide_eq_true h
    rw [Bool.and_true]
    refine decide_eq_true ?_
    have : cp t ≠ [] := fun z => by rw [z] at h; cases h
    rw [cp_len t]
    show 0 + 1 ≤ _
    have := List.length_pos_iff.mpr this
    omega
section
variable {G : Prg} {I : ClsI} {d : Nat} {h : LH} {Q : Val → LH → Prop} {E : EP} {v : Val} {a b : Int} {n m : Nat} {x t : Str}
theorem v_strI {i : Int} (s : Sm 1000 i) : vBi .str [.int i] h = .ok (.str (itx i)) h := by
  show chk (decide (i.natAbs.log2 < 1920)) _ = _
  rw [decide_eq_true (Nat.lt_trans (s.log (by omega)) (by omega))]
  rfl
theorem att_text (P : TxG G I) (hd : 2 ≤ d) (e : h[n]? = some (prt a b)) (sa : Sm 1000 a) (sb : Sm 1000 b) (q : Q (.str (ptx a b)) h) : wAtt G d (.loc n) "text" h Q E := by
  unfold wAtt attO
  rw [ins_p e]
  dsimp only
  rw [P.cls]
  dsimp only
  have z : slotI I "text" = none := by unfold slotI; rw [P.slots]; rfl
  rw [z]
  dsimp only
  rw [P.p_text]
  refine ⟨hd, xc P.text rfl ?_⟩
  simp only [b_Part_text, wJs, wS, wS1, w, wL, tbl, ttr, Mi.tOr, Mi.tAn, Mi.wAn, Mi.wOr, List.map_cons, List.map_nil, List.cons_append, List.nil_append, List.getElem?_cons_zero, List.getElem?_cons_succ, bindT, bindTs, seqT, List.length_cons, List.length_nil, Nat.reduceAdd, Nat.reduceSub, List.replicate, List.set_cons_zero, List.set_cons_succ]
  have la := itx_len sa
  have lb := itx_len sb
  have hz : 3000 ≤ sizeLine := by decide
  refine att_und P.toPaG e ⟨rfl, ow_by (v := .bl (decide (b = 1))) (h1 := h) rfl ?_⟩
  by_cases hb : b = 1
  · rw [decide_eq_true hb]
    have q : Q (.str (itx a)) h := by unfold ptx at q; rw [if_pos hb] at q; exact q
    exact att_num P.toPaG e (hd_by (v_strI sa) q)
  · rw [decide_eq_false hb]
    have q : Q (.str (Str.empty ++ itx a ++ "/" ++ itx b)) h := by unfold ptx at q; rw [if_neg hb] at q; exact q
    have l1 : (("/" : Str)).length = 1 := rfl
    have l0 : (Str.empty).length = 0 := rfl
    refine att_num P.toPaG e (hd_by (v_fmtI sa) ⟨?_, rfl, hd_by (show vFmt (.str ("/" : Str)) h = .ok (.str "/") h from rfl) ⟨?_, att_und P.toPaG e (hd_by (v_fmtI sb) ⟨?_, q⟩)⟩⟩)
    · rw [Str.length_append]; omega
    · rw [Str.length_append, Str.length_append]; omega
    · rw [Str.length_append, Str.length_append, Str.length_append]; omega
/-- [is_whole(word) for word in words] -/
theorem l_whole (P : TxG G I) (hd : 1 ≤ d) {sl sl' : LS} {j k : Nat} {ws : List Str} (hk : h[k]? = some (.lst (ws.map .str))) (hx : ∀ x ∈ ws, x.length ≤ 10000) (hl : ws.length < 10000) (hw : sl' = wipeL sl [j]) (hj : j < sl.length) (q : ∀ h', Xt h h' → Q (.bl (ws.all isW)) h') :
    XLc G d (.nm j) [] (IE.cal k_is_whole [.var j]) [j] (.seq (.loc k)) 0 h.length sl' (h ++ [.lst []]) (fun v h1 => Hd (vBi .all [v] h1) Q E) E := by
  subst hw
  refine xl_map (ws.map .str) (fun v => match v with | .str y => .bl (isW y) | v => v) (fun h' i x' => ?_) (by rw [List.length_map]; exact Nat.lt_trans hl (by decide)) (fun v hv h' K _ kk => ?_) fun h' x' e => ?_
  · exact item_lst (x'.2 _ _ hk)
  · obtain ⟨y, hy, rfl⟩ := List.mem_map.mp hv
    refine ⟨_, rfl, ?_⟩
    have e : ((wipeL sl [j]).set j (some (Val.str y)))[j]? = some (some (.str y)) := List.getElem?_set_self (by simp [wipeL, hj])
    simp only [w, wL, e]
    exact ⟨hd, x_whole P (hx y hy) kk⟩
  · have e2 : h'[h.length]? = some (.lst (ws.map fun y => .bl (isW y))) := by
      rw [e, List.map_map]
      rfl
    have e3 : ∀ l : List Str, blsOf (l.map fun y => Val.bl (isW y)) = some (l.map isW) := fun l => by
      induction l with
      | nil => rfl
      | cons c cs ih => rw [List.map_cons]; unfold blsOf; rw [ih]; rfl
    refine hd_by (v_all e2 (e3 ws)) ?_
    rw [List.all_map]
    exact q h' x'
theorem v_intW {y : Str} (hw : isW y = true) (hl : y.length ≤ 640) : vBi .int [.str y] h = .ok (.int (vl y)) h := by
  unfold vBi
  dsimp only
  rw [(isW_who.mp hw).int hl]
  dsimp only
  rw [decide_eq_true hl]
  rfl
theorem v_len {k : Nat} {xs : List Val} (hk : h[k]? = some (.lst xs)) : vBi .len [.loc k] h = .ok (.int xs.length) h := by
  unfold vBi lenO
  dsimp only
  have : seqL (.loc k) h = some xs := by
    unfold seqL
    dsimp only
    rw [hk]
  first
    | (rw [this]; rfl)
    | (rw [hk]; rfl)
theorem v_at {k : Nat} {xs : List Val} {i : Int} {y : Val} (hk : h[k]? = some (.lst xs)) (e : atI xs i = some y) : vIx (.loc k) (.int i) h = .ok y h := by
  unfold vIx
  dsimp only
  rw [hk]
  dsimp only
  rw [e]
  rfl
theorem sm_vl {y : Str} (hw : isW y = true) (hl : y.length ≤ 300) : Sm 1000 (vl y) := by
  have e := (isW_who.mp hw).txt
  have hv : ∀ (cs : List Nat) (a : Nat), AllDigits cs → cs.foldl (fun acc c => acc * 10 + (c - 48)) a < (a + 1) * 10 ^ cs.length := by
    intro cs
    induction cs with
    | nil => intro a _; simp
    | cons c cs ih =>
      intro a hd
      have h1 := ih (a * 10 + (c - 48)) fun x hx => hd x (List.mem_cons_of_mem _ hx)
      have h2 := hd c (List.mem_cons_self ..)
      rw [List.foldl_cons, List.length_cons, Nat.pow_succ]
      refine Nat.lt_of_lt_of_le h1 ?_
      rw [show (a + 1) * (10 ^ cs.length * 10) = ((a + 1) * 10) * 10 ^ cs.length by rw [Nat.mul_comm (10 ^ cs.length) 10, Nat.mul_assoc]]
      exact Nat.mul_le_mul_right _ (by omega)
  have h1 : digitsVal (cp y) < (0 + 1) * 10 ^ (cp y).length := hv (cp y) 0 (isW_who.mp hw).dg
  rw [Nat.zero_add, Nat.one_mul] at h1
  have h2 : 10 ^ (cp y).length ≤ 10 ^ 300 := Nat.pow_le_pow_right (by decide) (by rw [← cp_len]; exact hl)
  have h3 : (10 : Nat) ^ 300 ≤ 2 ^ 1000 := by decide +kernel
  exact Nat.lt_of_lt_of_le h1 (Nat.le_trans h2 h3)
/-! ### part_in, in three pieces -/
def piR : List IS := [IS.ret (some ((IE.cmp CmpOp.Eq ((IE.var 3).att "text") (IE.var 0)).ife (IE.var 3) (IE.cst Val.non)))]
def piT : List IS := IS.asg (ITg.nm 2) ((IE.mth Mt.startsw (IE.var 0) [IE.cst (Val.str "-")]).ife (IE.blt Bi.int [(IE.var 1).ix (IE.cst (Val.int 0))]).neg (IE.blt Bi.int [(IE.var 1).ix (IE.cst (Val.int 0))])) :: IS.asg (ITg.nm 3) (IE.mk "Part" [IE.var 2, (IE.cmp CmpOp.Eq (IE.blt Bi.len [IE.var 1]) (IE.cst (Val.int 2))).ife (IE.blt Bi.int [(IE.var 1).ix (IE.cst (Val.int 1))]) (IE.cst (Val.int 1))]) :: piR
theorem pi_eq : b_part_in = IS.asg (ITg.nm 1) (IE.mth Mt.split (IE.mth Mt.rmpre (IE.var 0) [IE.cst (Val.str "-")]) [IE.cst (Val.str "/")]) :: IS.iff (IE.orr [IE.cmp CmpOp.Gt (IE.blt Bi.len [IE.var 1]) (IE.cst (Val.int 2)), (IE.blt Bi.all [IE.lc (ITg.nm 4) 0 [IE.var 1] [] (IE.cal 27 [IE.var 4]) [4]]).nt, IE.an [IE.cmp CmpOp.Eq ((IE.var 1).ix (IE.cst (Val.int 1)).neg) (IE.cst (Val.str "0")), IE.cmp CmpOp.Eq (IE.blt Bi.len [IE.var 1]) (IE.cst (Val.int 2))]]) [IS.ret (some (IE.cst Val.non))] [] :: piT := rfl
abbrev kR (Q : Val → LH → Prop) (E : EP) : RsS → Prop := fun x => match x with
  | .rt v h1 => Q v h1
  | .nx _ h1 => Q .non h1
  | .exc c v _ h1 => E c v h1
  | _ => False
theorem w_pir (P : TxG G I) (hd : 2 ≤ d) {s1 s2 s4 : Option Val} (e : h[n]? = some (prt a b)) (sa : Sm 1000 a) (sb : Sm 1000 b) (q : Q (if ptx a b = t then .loc n else .non) h) : wS G d piR [some (.str t), s1, s2, some (.loc n), s4] h (kR Q E) := by
  simp only [piR, wS, wS1, w, wL, tbl, ttr, Mi.tOr, Mi.tAn, Mi.wAn, Mi.wOr, List.map_cons, List.map_nil, List.cons_append, List.nil_append, List.getElem?_cons_zero, List.getElem?_cons_succ, bindT, bindTs, seqT, List.length_cons, List.length_nil, Nat.reduceAdd, Nat.reduceSub, List.replicate, List.set_cons_zero, List.set_cons_succ]
  refine att_text P hd e sa sb (ow_by eq_s ?_)
  by_cases z : ptx a b = t
  · rw [decide_eq_true z]
    rw [if_pos z] at q
    exact q
  · rw [decide_eq_false z]
    rw [if_neg z] at q
    exact ⟨rfl, q⟩
/-- the tail, one word -/
theorem w_pit1 (P : TxG G I) (hd : 5 ≤ d) {k : Nat} (hk : h[k]? = some (.lst [.str x])) (hw : isW x = true) (hl : x.length ≤ 200) (q : ∀ h', Xt h h' → h'[h.length]? = some (prt (sv (ng t) (vl x)) 1) → Q (if ptx (sv (ng t) (vl x)) 1 = t then .loc h.length else .non) h') : wS G d piT [some (.str t), some (.loc k), none, none, none] h (kR Q E) := by
  have sx := sm_vl hw (by omega)
  have i0 : atI ([.str x] : List Val) 0 = some (.str x) := rfl
  simp only [piT, wS, wS1, w, wL, tbl, ttr, Mi.tOr, Mi.tAn, Mi.wAn, Mi.wOr, List.map_cons, List.map_nil, List.cons_append, List.nil_append, List.getElem?_cons_zero, List.getElem?_cons_succ, bindT, bindTs, seqT, List.length_cons, List.length_nil, Nat.reduceAdd, Nat.reduceSub, List.replicate, List.set_cons_zero, List.set_cons_succ]
  refine ⟨rfl, rfl, hd_by (show vMt .startsw (.str t) [.str "-"] h = .ok (.bl (ng t)) h from by show Res.ok (Val.bl (Txt.startswith t "-")) h = _; rw [st_eq]) ?_⟩
  dsimp only [truO]
  have fin : ∀ a : Int, Sm 1000 a → a = sv (ng t) (vl x) → wMk G d "Part" [.int a, .int 1] h (fun v h1 => wS G d piR [some (.str t), some (.loc k), some (.int a), some v, none] h1 (kR Q E)) fun c v h1 => E c v h1 := fun a sa ea => by
    refine w_mk2 P.toPaG (by omega) (by decide) (Sm.one (by omega) : Sm 1000 1) (by omega) (by omega) ?_
    obtain ⟨e1, e2⟩ := lo_self (lo_one a)
    rw [e1, e2]
    refine w_pir P (by omega) at_end sa (Sm.one (by omega)) ?_
    rw [ea]
    exact q _ (Xt.app _ _) at_end
  cases hs : ng t with
  | true => exact ⟨rfl, hd_by (v_at hk i0) (hd_by (v_intW hw (by omega)) (ow_by (v := .int (-(vl x : Int))) (h1 := h) rfl ⟨by omega, hd_by (v_len hk) ⟨rfl, ow_by (v := .bl false) (h1 := h) rfl ⟨rfl, fin _ sx.neg (by rw [hs]; rfl)⟩⟩⟩))⟩
  | false => exact ⟨rfl, hd_by (v_at hk i0) (hd_by (v_intW hw (by omega)) ⟨by omega, hd_by (v_len hk) ⟨rfl, ow_by (v := .bl false) (h1 := h) rfl ⟨rfl, fin _ sx (by rw [hs]; rfl)⟩⟩⟩)⟩
/-- the tail, two words -/
theorem w_pit2 (P : TxG G I) (hd : 5 ≤ d) {k : Nat} {y : Str} (hk : h[k]? = some (.lst [.str x, .str y])) (hw : isW x = true) (hl : x.length ≤ 200) (hw2 : isW y = true) (hl2 : y.length ≤ 200) (h0 : 0 < vl y)
    (q : ∀ h', Xt h h' → h'[h.length]? = some (prt (nu (sv (ng t) (vl x)) (vl y)) (de (sv (ng t) (vl x)) (vl y))) → Q (if ptx (nu (sv (ng t) (vl x)) (vl y)) (de (sv (ng t) (vl x)) (vl y)) = t then .loc h.length else .non) h') : wS G d piT [some (.str t), some (.loc k), none, none, none] h (kR Q E) := by
  have sx := sm_vl hw (by omega)
  have sy := sm_vl hw2 (by omega)
  have hb : (vl y : Int) ≠ 0 := by omega
  have i0 : atI ([.str x, .str y] : List Val) 0 = some (.str x) := rfl
  have i1 : atI ([.str x, .str y] : List Val) 1 = some (.str y) := rfl
  simp only [piT, wS, wS1, w, wL, tbl, ttr, Mi.tOr, Mi.tAn, Mi.wAn, Mi.wOr, List.map_cons, List.map_nil, List.cons_append, List.nil_append, List.getElem?_cons_zero, List.getElem?_cons_succ, bindT, bindTs, seqT, List.length_cons, List.length_nil, Nat.reduceAdd, Nat.reduceSub, List.replicate, List.set_cons_zero, List.set_cons_succ]
  refine ⟨rfl, rfl, hd_by (show vMt .startsw (.str t) [.str "-"] h = .ok (.bl (ng t)) h from by show Res.ok (Val.bl (Txt.startswith t "-")) h = _; rw [st_eq]) ?_⟩
  dsimp only [truO]
  have fin : ∀ a : Int, Sm 1000 a → a = sv (ng t) (vl x) → wMk G d "Part" [.int a, .int (vl y)] h (fun v h1 => wS G d piR [some (.str t), some (.loc k), some (.int a), some v, none] h1 (kR Q E)) fun c v h1 => E c v h1 := fun a sa ea => by
    refine w_mk2 P.toPaG (by omega) hb sy (by omega) (by omega) ?_
    refine w_pir P (by omega) at_end (sa.nu hb) (sy.de hb) ?_
    rw [ea]
    exact q _ (Xt.app _ _) at_end
  cases hs : ng t with
  | true => exact ⟨rfl, hd_by (v_at hk i0) (hd_by (v_intW hw (by omega)) (ow_by (v := .int (-(vl x : Int))) (h1 := h) rfl ⟨by omega, hd_by (v_len hk) ⟨rfl, ow_by (v := .bl true) (h1 := h) rfl ⟨rfl, hd_by (v_at hk i1) (hd_by (v_intW hw2 (by omega)) (fin _ sx.neg (by rw [hs]; rfl)))⟩⟩⟩))⟩
  | false => exact ⟨rfl, hd_by (v_at hk i0) (hd_by (v_intW hw (by omega)) ⟨by omega, hd_by (v_len hk) ⟨rfl, ow_by (v := .bl true) (h1 := h) rfl ⟨rfl, hd_by (v_at hk i1) (hd_by (v_intW hw2 (by omega)) (fin _ sx (by rw [hs]; rfl)))⟩⟩⟩)⟩
theorem vl0 {y : Str} (hw : isW y = true) : vl y = 0 ↔ y = ("0" : Str) := by
  have e := (isW_who.mp hw).txt
  constructor
  · intro z
    have z : digitsVal (cp y) = 0 := z
    rw [z] at e
    refine cp_ext ?_
    rw [← e]
    decide
  · rintro rfl
    decide
/-- part_in(text): as it reads -/
theorem x_partin (P : TxG G I) (hd : 5 ≤ d) (ht : t.length ≤ 200) (q0 : rdg t = none → ∀ h', Xt h h' → Q .non h') (q1 : ∀ p r, rdg t = some (p, r) → ∀ (n : Nat) h', Xt h h' → h'[n]? = some (prt p r) → Q (.loc n) h') : XC G d k_part_in [.str t] h Q E := by
  refine xc P.partin rfl ?_
  show wS G d b_part_in _ _ (kR Q E)
  rw [pi_eq]
  simp only [wS, wS1, w, wL, tbl, ttr, Mi.tOr, Mi.tAn, Mi.wAn, Mi.wOr, List.map_cons, List.map_nil, List.cons_append, List.nil_append, List.getElem?_cons_zero, List.getElem?_cons_succ, bindT, bindTs, seqT, List.length_cons, List.length_nil, Nat.reduceAdd, Nat.reduceSub, List.replicate, List.set_cons_zero, List.set_cons_succ]
  have hz : 1000 ≤ sizeLine := by decide
  have hr := rst_le t
  refine ⟨rfl, rfl, hd_by (v := .str (rst t)) (h := h) ?_ ⟨rfl, rfl, hd_by (v := .loc h.length) (h := h ++ [.lst ((wds t).map .str)]) ?_ ?_⟩⟩
  · show chk (decide (t.length ≤ sizeLine)) (.ok (.str (Txt.removeprefix t "-")) h) = _
    rw [decide_eq_true (by omega), rm_eq]
    rfl
  · show chk (!(("/" : Str).length == 0) && decide ((rst t).length + 2 ≤ sizeLine)) (newL ((Txt.split (rst t) "/").map .str) h) = _
    rw [decide_eq_true (by omega)]
    rfl
  generalize e1 : h ++ [.lst ((wds t).map .str)] = h1
  have x1 : Xt h h1 := by rw [← e1]; exact Xt.app _ _
  have k1 : h1[h.length]? = some (.lst ((wds t).map .str)) := by rw [← e1]; exact at_end
  refine hd_by (v_len k1) ⟨rfl, ow_by (v := .bl (decide ((((wds t).map Val.str).length : Int) > 2))) (h1 := h1) rfl ?_⟩
  by_cases hl : (((wds t).map Val.str).length : Int) > 2
  · rw [decide_eq_true hl]
    refine ⟨rfl, q0 ?_ h1 x1⟩
    rw [List.length_map] at hl
    unfold rdg
    split
    · rename_i e; rw [e] at hl; exact absurd hl (by simp)
    · rename_i e; rw [e] at hl; exact absurd hl (by simp)
    · rfl
  rw [decide_eq_false hl]
  rw [List.length_map] at hl
  refine ⟨.seq (.loc h.length), mk_lst k1, l_whole P (by omega) k1 (fun x hx => by have := wd_le hx; omega) (by have := wds_le t; omega) rfl (by simp) fun h2 x2 => ?_⟩
  have x12 := x1.trans x2
  have k2 := x2.2 _ _ k1
  have hp := wds_pos t
  obtain ⟨x, hx⟩ | ⟨x, y, hx⟩ : (∃ x, wds t = [x]) ∨ ∃ x y, wds t = [x, y] := by
    match wds t, hp, hl with
    | [x], _, _ => exact .inl ⟨x, rfl⟩
    | [x, y], _, _ => exact .inr ⟨x, y, rfl⟩
    | _ :: _ :: _ :: _, _, hl => exact absurd hl (by simp; omega)
  · have hr1 : rdg t = rd1 (ng t) x := by unfold rdg; rw [hx]
    rw [hx] at k2 ⊢
    have lx : x.length ≤ 200 := by have := wd_le (t := t) (x := x) (by rw [hx]; simp); omega
    dsimp only [truO]
    cases hw : isW x with
    | false =>
      have : [x].all isW = false := by simp [hw]
      rw [this]
      refine ⟨rfl, q0 ?_ _ x12⟩
      rw [hr1]
      unfold rd1
      rw [if_neg (by rw [hw]; simp)]
    | true =>
      have : [x].all isW = true := by simp [hw]
      rw [this]
      have key : wS G d piT [some (.str t), some (.loc h.length), none, none, none] h2 (kR Q E) := by
        refine w_pit1 P hd k2 hw lx fun h3 x3 e3 => ?_
        have ct : cp t = sgn (ng t) ++ cp (itx (vl x)) := by
          rw [show cp (itx (vl x)) = cp x from (isW_who.mp hw).txt]
          have := join_wds t
          rw [hx] at this
          rw [show x = rst t from this]
          exact cp_rst t
        have iff1 : ptx (sv (ng t) (vl x)) 1 = t ↔ ¬ (ng t = true ∧ vl x = 0) := by
          have e : ptx (sv (ng t) (vl x)) 1 = itx (sv (ng t) (vl x)) := if_pos rfl
          rw [e]
          constructor
          · intro z
            exact (sgn_txt.mp (by rw [z]; exact ct)).2
          · intro z
            exact cp_ext (by rw [ct]; exact sgn_txt.mpr ⟨rfl, z⟩)
        by_cases z : ng t = true ∧ vl x = 0
        · rw [if_neg (fun y => iff1.mp y z)]
          refine q0 ?_ _ (x12.trans x3)
          rw [hr1]
          unfold rd1
          rw [if_neg (fun y => y.2 z)]
        · rw [if_pos (iff1.mpr z)]
          refine q1 _ _ ?_ _ _ (x12.trans x3) e3
          rw [hr1]
          unfold rd1
          rw [if_pos ⟨hw, z⟩]
      refine ⟨rfl, ow_by (v := .int (-1)) (h1 := h2) rfl (hd_by (v_at k2 (show atI ([.str x] : List Val) (-1) = some (.str x) from rfl)) ⟨rfl, ow_by eq_s ?_⟩)⟩
      cases decide (x = ("0" : Str)) with
      | true => exact hd_by (v_len k2) ⟨rfl, ow_by (v := .bl false) (h1 := h2) rfl key⟩
      | false => exact key
  · have hr1 : rdg t = rd2 (ng t) x y := by unfold rdg; rw [hx]
    rw [hx] at k2 ⊢
    have lx : x.length ≤ 200 := by have := wd_le (t := t) (x := x) (by rw [hx]; simp); omega
    have ly : y.length ≤ 200 := by have := wd_le (t := t) (x := y) (by rw [hx]; simp); omega
    dsimp only [truO]
    cases hw : isW x && isW y with
    | false =>
      have : [x, y].all isW = false := by simpa using hw
      rw [this]
      refine ⟨rfl, q0 ?_ _ x12⟩
      rw [hr1]
      unfold rd2
      rw [if_neg (by rintro ⟨z1, z2, _⟩; rw [z1, z2] at hw; cases hw)]
    | true =>
      have : [x, y].all isW = true := by simpa using hw
      rw [this]
      obtain ⟨wx, wy⟩ := Bool.and_eq_true_iff.mp hw
      refine ⟨rfl, ow_by (v := .int (-1)) (h1 := h2) rfl (hd_by (v_at k2 (show atI ([.str x, .str y] : List Val) (-1) = some (.str y) from rfl)) ⟨rfl, ow_by eq_s ?_⟩)⟩
      by_cases hy : y = ("0" : Str)
      · rw [decide_eq_true hy]
        refine hd_by (v_len k2) ⟨rfl, ow_by (v := .bl true) (h1 := h2) rfl ⟨rfl, q0 ?_ _ x12⟩⟩
        rw [hr1]
        unfold rd2
        rw [if_neg (by rintro ⟨_, _, z, _⟩; have := (vl0 wy).mpr hy; omega)]
      · rw [decide_eq_false hy]
        have h0 : 0 < vl y := Nat.pos_of_ne_zero fun z => hy ((vl0 wy).mp z)
        refine w_pit2 P hd k2 wx lx wy ly h0 fun h3 x3 e3 => ?_
        have ct : cp t = sgn (ng t) ++ (cp (itx (vl x)) ++ 47 :: cp (itx (vl y))) := by
          rw [show cp (itx (vl x)) = cp x from (isW_who.mp wx).txt, show cp (itx (vl y)) = cp y from (isW_who.mp wy).txt]
          have := join_wds t
          rw [hx] at this
          have e : cp (rst t) = cp x ++ 47 :: cp y := by
            rw [← this]
            show cp (x ++ "/" ++ y) = _
            rw [cp_app, cp_app]
            show cp x ++ [47] ++ cp y = _
            simp
          rw [← e]
          exact cp_rst t
        have iff1 := two_txt h0 ct
        by_cases z : 2 ≤ vl y ∧ nu (vl x) (vl y) = (vl x : Int) ∧ de (vl x) (vl y) = (vl y : Int)
        · have zz := iff1.mpr z
          rw [if_pos zz]
          have hv : (vl y : Int) ≠ 0 := by omega
          have l3 : Lo (vl x : Int) (vl y) := by
            have := lo_nd (a := (vl x : Int)) hv
            rw [z.2.1, z.2.2] at this
            exact this
          have l2 : Lo (sv (ng t) (vl x)) (vl y) := by
            cases ng t
            · exact l3
            · refine ⟨l3.1, ?_⟩
              unfold sv
              rw [if_pos rfl, Int.neg_gcd]
              exact l3.2
          obtain ⟨f1, f2⟩ := lo_self l2
          rw [f1, f2] at e3
          refine q1 _ _ ?_ _ _ (x12.trans x3) e3
          rw [hr1]
          unfold rd2
          rw [if_pos ⟨wx, wy, z⟩]
        · rw [if_neg (fun zz => z (iff1.mp zz))]
          refine q0 ?_ _ (x12.trans x3)
          rw [hr1]
          unfold rd2
          rw [if_neg (fun zz => z zz.2.2)]
/-- Part.of(text) -/
theorem x_partof (P : TxG G I) (hd : 6 ≤ d) (ht : t.length ≤ 200) (q0 : rdg t = none → ∀ h', Xt h h' → E "BadText" (.str t) h') (q1 : ∀ p r, rdg t = some (p, r) → ∀ (n : Nat) h', Xt h h' → h'[n]? = some (prt p r) → Q (.loc n) h') : XC G d k_Part_of [.str t] h Q E := by
  refine xc P.of rfl ?_
  simp only [b_Part_of, wS, wS1, w, wL, tbl, ttr, Mi.tOr, Mi.tAn, Mi.wAn, Mi.wOr, List.map_cons, List.map_nil, List.cons_append, List.nil_append, List.getElem?_cons_zero, List.getElem?_cons_succ, bindT, bindTs, seqT, List.length_cons, List.length_nil, Nat.reduceAdd, Nat.reduceSub, List.replicate, List.set_cons_zero, List.set_cons_succ]
  have hty : Ty h (.str t) (.ty "str") := ⟨⟨rfl, fun _ _ z => by cases z⟩, by decide⟩
  refine hd_by (v_isi P.toPaG hty (P.i_str _ hty.2)) ?_
  rw [decide_eq_true rfl]
  refine ⟨by omega, x_partin P (by omega) ht (fun z h1 x1 => ⟨rfl, ow_by (v := .bl true) (h1 := h1) rfl ?_⟩) fun p r z n h1 x1 e1 => ⟨rfl, ow_by (v := .bl false) (h1 := h1) rfl ?_⟩⟩
  · exact ⟨P.badT, q0 z h1 x1⟩
  · exact q1 p r z n h1 x1 e1
theorem x_partof0 (P : TxG G I) {ty : ClR} (ht : Ty h v ty) (hs : ty ≠ .ty "str") (q : E "BadText" v h) : XC G d k_Part_of [v] h Q E := by
  refine xc P.of rfl ?_
  simp only [b_Part_of, wS, wS1, w, wL, tbl, ttr, Mi.tOr, Mi.tAn, Mi.wAn, Mi.wOr, List.map_cons, List.map_nil, List.cons_append, List.nil_append, List.getElem?_cons_zero, List.getElem?_cons_succ, bindT, bindTs, seqT, List.length_cons, List.length_nil, Nat.reduceAdd, Nat.reduceSub, List.replicate, List.set_cons_zero, List.set_cons_succ]
  refine hd_by (v_isi P.toPaG ht (P.i_str _ ht.2)) ?_
  rw [decide_eq_false hs]
  exact ⟨rfl, rfl, ow_by (v := .bl true) (h1 := h) rfl ⟨P.badT, q⟩⟩
end
end Mi

set_option Elab.async false
set_option linter.all false
set_option maxRecDepth 100000
set_option maxHeartbeats 1000000
namespace Lw
open PySem L2 Mi PySem.NumText PyProof.Rows
/-! ### the law's own reading -/
def nv (x : Str) : Val := if isW x then .int (vl x) else .non
def nd (x : Str) : PyData := if isW x then .int (vl x) else .none
theorem toD_nv {h : LH} {n : Nat} (x : Str) : toD (n + 1) h (nv x) = some (nd x) := by
  unfold nv nd
  split <;> rfl
theorem map_nv {h : LH} {n : Nat} : ∀ ws : List Str, mapO (toD (n + 1) h) (ws.map nv) = some (ws.map nd)
  | [] => rfl
  | x :: ws => by
    rw [List.map_cons]
    unfold mapO
    rw [toD_nv, map_nv ws]
    rfl
theorem lay_nd : ∀ ws : List Str, PyData.canLayAll0 (ws.map nd) = true
  | [] => rfl
  | x :: ws => by
    rw [List.map_cons]
    unfold PyData.canLayAll0
    rw [lay_nd ws, Bool.and_true]
    unfold nd
    split <;> rfl
theorem dep_nd : ∀ ws : List Str, PyData.depthAll (ws.map nd) = 0
  | [] => rfl
  | x :: ws => by
    rw [List.map_cons]
    unfold PyData.depthAll
    rw [dep_nd ws]
    unfold nd
    split <;> rfl
theorem any_nd : ∀ ws : List Str, ((ws.map nd).any fun z => PyData.eqv z .none) = !ws.all isW
  | [] => rfl
  | x :: ws => by
    rw [List.map_cons, List.any_cons, any_nd ws, List.all_cons]
    unfold nd
    cases isW x <;> rfl
theorem in_none {h : LH} {k : Nat} {ws : List Str} (hk : h[k]? = some (.lst (ws.map nv))) : vCmp .In .non (.loc k) h = .ok (.bl (!ws.all isW)) h := by
  have e1 : toD 40 h (.loc k) = some (.list (ws.map nd)) := by
    show (match h[k]? with
      | some (.lst xs) => (mapO (toD 39 h) xs).map PyData.list
      | _ => none) = _
    rw [hk]
    dsimp only
    rw [map_nv]
    rfl
  have e2 : SeqAt.shaped (.list (ws.map nd)) = true := by
    show (PyData.canLayAll0 (ws.map nd) && decide (PyData.depthAll (ws.map nd) + 1 ≤ 64)) = true
    rw [lay_nd, dep_nd]
    rfl
  have e3 : inB .non (.loc k) h = some (!ws.all isW) := by
    unfold inB
    dsimp only
    rw [hk]
    dsimp only
    unfold inS
    have : toD 40 h .non = some .none := rfl
    rw [this, e1]
    dsimp only [memD]
    have e4 : SeqAt.shaped (PyData.none) = true := rfl
    rw [e2, e4, if_pos (by rfl), any_nd]
  show ofB (inB .non (.loc k) h) h = _
  rw [e3]
  rfl
def rv (t : Str) : Val := match rdg t with
  | some (p, r) => pr p r
  | none => .non
theorem cut1 (t : Str) : cutS t none (some 1) = ("-" : Str) ↔ ng t = true := by
  have e : cp (cutS t none (some 1)) = (cp t).take 1 := by
    show (((cp t).drop (HT.sIx t.length 0 none)).take (HT.sIx t.length t.length (some 1) - HT.sIx t.length 0 none)) = _
    have h0 : HT.sIx t.length 0 none = 0 := rfl
    rw [h0, List.drop_zero, Nat.sub_zero]
    by_cases ht : t.length = 0
    · have : cp t = [] := List.length_eq_zero_iff.mp (by rw [← cp_len]; exact ht)
      rw [this]
      simp
    · have : HT.sIx t.length t.length (some 1) = 1 := by
        unfold HT.sIx
        simp
        omega
      rw [this]
  have e45 : cp ("-" : Str) = [45] := by decide
  unfold ng
  rw [decide_eq_true_iff]
  constructor
  · intro z
    rw [z, e45] at e
    cases h : cp t with
    | nil => rw [h] at e; cases e
    | cons c r => rw [h] at e; cases e; rfl
  · intro z
    refine cp_ext ?_
    rw [e, e45]
    cases h : cp t with
    | nil => rw [h] at z; cases z
    | cons c r => rw [h] at z; cases z; rfl
theorem cut2 (t : Str) (h : ng t = true) : cutS t (some 1) none = rst t := by
  unfold rst
  rw [if_pos h]
  refine cp_ext ?_
  show (((cp t).drop (HT.sIx t.length 0 (some 1))).take (HT.sIx t.length t.length none - HT.sIx t.length 0 (some 1))) = (cp t).drop 1
  have hl : 0 < t.length := by
    rw [cp_len]
    have h := of_decide_eq_true h
    cases e : cp t with
    | nil => rw [e] at h; cases h
    | cons c r => simp
  have h0 : HT.sIx t.length 0 (some 1) = 1 := by
    unfold HT.sIx
    simp
    omega
  have h1 : HT.sIx t.length t.length none = t.length := rfl
  rw [h0, h1]
  refine List.take_of_length_le ?_
  rw [List.length_drop, ← cp_len]
  exact Nat.le_refl _
section
variable {G : Prg} (F : FG G) {d : Nat} {h : LH} {Q : Val → LH → Prop} {E : EP} {v : Val} {a b : Int} {n m p : Nat} {x t : Str}
include F
theorem tx : TxG G I_Part := { pp F with whole := F.d_is_whole, partin := F.d_part_in, text := F.d_Part_text, of := F.d_Part_of, p_text := rfl, badT := by rw [F.errs]; rfl, i_str := by rw [F.isi]; decide +kernel }
theorem x_lwhole (hx : x.length ≤ 640) (q : ∀ h', Xt h h' → Q (nv x) h') : XC G d k__law_whole [.str x] h Q E := by
  refine xc F.d__law_whole rfl ?_
  simp only [b__law_whole, wS, wS1, w, wL, tbl, ttr, Mi.tOr, Mi.tAn, Mi.wAn, Mi.wOr, List.map_cons, List.map_nil, List.cons_append, List.nil_append, List.getElem?_cons_zero, List.getElem?_cons_succ, bindT, bindTs, seqT, List.length_cons, List.length_nil, Nat.reduceAdd, Nat.reduceSub, List.replicate, List.set_cons_zero, List.set_cons_succ]
  have hz : 640 ≤ sizeLine := by decide
  refine ⟨rfl, ow_by eq_s ?_⟩
  by_cases h0 : x = ("" : Str)
  · rw [decide_eq_true h0]
    refine ⟨rfl, ?_⟩
    have : nv x = .non := by rw [h0]; rfl
    rw [← this]
    exact q h (Xt.refl h)
  · rw [decide_eq_false h0]
    have hne : cp x ≠ [] := fun z => h0 (cp_ext z)
    refine ⟨.chr x, rfl, l_figs (by omega) rfl (by simp) fun h1 x1 => ?_⟩
    dsimp only [truO]
    have q := q h1 x1
    unfold nv at q
    cases ha : (cp x).all fig with
    | false =>
      refine ⟨rfl, ?_⟩
      have : isW x = false := by unfold isW; rw [ha]; simp
      rw [this] at q
      exact q
    | true =>
      obtain ⟨c, r, hc⟩ : ∃ c r, cp x = c :: r := by
        cases e : cp x with
        | nil => exact absurd e hne
        | cons c r => exact ⟨c, r, rfl⟩
      refine hd_by (v := .int x.length) (h := h1) ?_ ⟨rfl, ow_by (v := .bl (decide ((x.length : Int) > 1))) (h1 := h1) rfl ?_⟩
      · show ofO ((if x.length ≤ sizeLine then some x.length else none).map fun (n : Nat) => Val.int (n : Int)) h1 = _
        rw [if_pos (by omega)]
        rfl
      have wt : isW x = true → XC G d k__law_whole [.str x] h Q E ∨ Hd (vBi .int [.str x] h1) Q E := fun hw => .inr (hd_by (v_intW hw hx) (by rw [hw] at q; exact q))
      by_cases hl : (x.length : Int) > 1
      · rw [decide_eq_true hl]
        have hlr : r ≠ [] := fun z => by rw [cp_len, hc, z] at hl; simp at hl
        have h3 : cp x ≠ [48] := fun z => by rw [hc] at z; exact hlr (List.cons.inj z).2
        refine ⟨rfl, hd_by (ix_s0 (by omega) hc) ⟨rfl, ow_by eq_s ?_⟩⟩
        have e48 : cp ("0" : Str) = [48] := by decide
        by_cases h4 : (⟨#[c]⟩ : Str) = ("0" : Str)
        · rw [decide_eq_true h4]
          refine ⟨rfl, ?_⟩
          have : isW x = false := by
            unfold isW
            have hc48 : c = 48 := (List.cons.inj (congrArg cp h4)).1
            rw [decide_eq_false h3, hc, hc48]
            simp
          rw [this] at q
          exact q
        · rw [decide_eq_false h4]
          have hw : isW x = true := by
            unfold isW
            have hc48 : c ≠ 48 := fun z => h4 (by rw [z]; rfl)
            rw [ha, decide_eq_false hne, hc]
            simp [hc48]
          exact hd_by (v_intW hw hx) (by rw [hw] at q; exact q)
      · rw [decide_eq_false hl]
        have hr : r = [] := by
          cases r with
          | nil => rfl
          | cons _ _ => rw [cp_len, hc] at hl; simp at hl; omega
        have hw : isW x = true := by
          unfold isW
          rw [ha, decide_eq_false hne, hc, hr]
          by_cases z : c = 48
          · simp [z]
          · simp [z]
        exact hd_by (v_intW hw hx) (by rw [hw] at q; exact q)
omit F in
theorem ne_pr {a b c e : Int} {h : LH} : vCmp .NotEq (pr a b) (pr c e) h = .ok (.bl (!(a == c && (b == e && true)))) h := rfl
def fiR : List IS := IS.iff (IE.cmp CmpOp.Eq (IE.blt Bi.len [IE.var 1]) (IE.cst (Val.int 1))) [IS.ret (some (IE.tp [IE.bin Operator.Mult (IE.var 3) ((IE.var 2).ix (IE.cst (Val.int 0))), IE.cst (Val.int 1)]))] [] :: IS.iff (IE.orr [IE.cmp CmpOp.Lt ((IE.var 2).ix (IE.cst (Val.int 1))) (IE.cst (Val.int 2)), IE.cmp CmpOp.NotEq (IE.cal 49 [(IE.var 2).ix (IE.cst (Val.int 0)), (IE.var 2).ix (IE.cst (Val.int 1))]) (IE.tp [(IE.var 2).ix (IE.cst (Val.int 0)), (IE.var 2).ix (IE.cst (Val.int 1))])]) [IS.ret (some (IE.cst Val.non))] [] :: IS.ret (some (IE.tp [IE.bin Operator.Mult (IE.var 3) ((IE.var 2).ix (IE.cst (Val.int 0))), (IE.var 2).ix (IE.cst (Val.int 1))])) :: []
def fiT : List IS := IS.asg (ITg.nm 1) (IE.mth Mt.split (IE.var 4) [IE.cst (Val.str "/")]) :: IS.asg (ITg.nm 2) (IE.lc (ITg.nm 5) 0 [IE.var 1] [] (IE.cal 356 [IE.var 5]) [5]) :: IS.iff (IE.orr [IE.cmp CmpOp.In (IE.cst Val.non) (IE.var 2), IE.cmp CmpOp.Gt (IE.blt Bi.len [IE.var 1]) (IE.cst (Val.int 2)), IE.an [IE.cmp CmpOp.Lt (IE.var 3) (IE.cst (Val.int 0)), IE.cmp CmpOp.Eq ((IE.var 2).ix (IE.cst (Val.int 0))) (IE.cst (Val.int 0))]]) [IS.ret (some (IE.cst Val.non))] [] :: fiR
omit F in
theorem fi_eq : b__law_fraction_in = IS.asg (ITg.tp [ITg.nm 3, ITg.nm 4]) ((IE.cmp CmpOp.Eq ((IE.var 0).sl none (some (IE.cst (Val.int 1)))) (IE.cst (Val.str "-"))).ife (IE.tp [(IE.cst (Val.int 1)).neg, (IE.var 0).sl (some (IE.cst (Val.int 1))) none]) (IE.tp [IE.cst (Val.int 1), IE.var 0])) :: fiT := rfl
def s1 (b : Bool) : Int := if b then -1 else 1
omit F in
theorem s1_mul {b : Bool} {n : Nat} : s1 b * (n : Int) = sv b n := by
  cases b
  · show 1 * (n : Int) = n
    omega
  · show -1 * (n : Int) = -n
    omega
omit F in
theorem sm_s1 {b : Bool} : Sm 1000 (s1 b) := by cases b <;> (unfold Sm s1; decide +kernel)
theorem w_fir1 {k l : Nat} {sl5 : Option Val} {ng : Bool} (hk : h[k]? = some (.lst [.str x])) (hl : h[l]? = some (.lst [.int (vl x)])) (sx : Sm 1000 (vl x)) (q : Q (pr (sv ng (vl x)) 1) h) : wS G d fiR [some (.str t), some (.loc k), some (.loc l), some (.int (s1 ng)), sl5, none] h (kR Q E) := by
  simp only [fiR, wS, wS1, w, wL, tbl, ttr, Mi.tOr, Mi.tAn, Mi.wAn, Mi.wOr, List.map_cons, List.map_nil, List.cons_append, List.nil_append, List.getElem?_cons_zero, List.getElem?_cons_succ, bindT, bindTs, seqT, List.length_cons, List.length_nil, Nat.reduceAdd, Nat.reduceSub, List.replicate, List.set_cons_zero, List.set_cons_succ]
  refine hd_by (v_len hk) ⟨rfl, ow_by (v := .bl true) (h1 := h) rfl ?_⟩
  refine ⟨rfl, hd_by (v_at hl (show atI ([.int (vl x)] : List Val) 0 = some (.int (vl x)) from rfl)) (ow_by (v_mulS sm_s1 sx) ⟨rfl, szl, ?_⟩)⟩
  rw [s1_mul]
  exact q
theorem w_fir2 {k l : Nat} {y : Str} {sl5 : Option Val} {ng : Bool} (hk : h[k]? = some (.lst [.str x, .str y])) (hl : h[l]? = some (.lst [.int (vl x), .int (vl y)])) (hd : 1 ≤ d) (sx : Sm 1000 (vl x)) (sy : Sm 1000 (vl y)) (q : Q (if 2 ≤ vl y ∧ nu (vl x) (vl y) = (vl x : Int) ∧ de (vl x) (vl y) = (vl y : Int) then pr (sv ng (vl x)) (vl y) else .non) h) : wS G d fiR [some (.str t), some (.loc k), some (.loc l), some (.int (s1 ng)), sl5, none] h (kR Q E) := by
  have i0 : atI ([.int (vl x), .int (vl y)] : List Val) 0 = some (.int (vl x)) := rfl
  have i1 : atI ([.int (vl x), .int (vl y)] : List Val) 1 = some (.int (vl y)) := rfl
  simp only [fiR, wS, wS1, w, wL, tbl, ttr, Mi.tOr, Mi.tAn, Mi.wAn, Mi.wOr, List.map_cons, List.map_nil, List.cons_append, List.nil_append, List.getElem?_cons_zero, List.getElem?_cons_succ, bindT, bindTs, seqT, List.length_cons, List.length_nil, Nat.reduceAdd, Nat.reduceSub, List.replicate, List.set_cons_zero, List.set_cons_succ]
  refine hd_by (v_len hk) ⟨rfl, ow_by (v := .bl false) (h1 := h) rfl ?_⟩
  refine ⟨rfl, hd_by (v_at hl i1) ⟨rfl, ow_by (v := .bl (decide ((vl y : Int) < 2))) (h1 := h) rfl ?_⟩⟩
  by_cases h2 : (vl y : Int) < 2
  · rw [decide_eq_true h2]
    rw [if_neg (by omega)] at q
    exact ⟨rfl, q⟩
  rw [decide_eq_false h2]
  refine ⟨hd, rfl, hd_by (v_at hl i0) ⟨rfl, hd_by (v_at hl i1) (x_pair F.d__law_pair (sx.up (by omega)) (sy.up (by omega)) (by omega) ⟨rfl, hd_by (v_at hl i0) ⟨rfl, hd_by (v_at hl i1) ⟨szl, ne_by ne_pr ?_⟩⟩⟩)⟩⟩
  by_cases h3 : nu (vl x) (vl y) = (vl x : Int) ∧ de (vl x) (vl y) = (vl y : Int)
  · have : (nu (vl x) (vl y) == (vl x : Int) && (de (vl x) (vl y) == (vl y : Int) && true)) = true := by rw [h3.1, h3.2]; simp
    rw [this]
    rw [if_pos ⟨by omega, h3⟩] at q
    refine ⟨rfl, hd_by (v_at hl i0) (ow_by (v_mulS sm_s1 sx) ⟨rfl, hd_by (v_at hl i1) ⟨szl, ?_⟩⟩)⟩
    rw [s1_mul]
    exact q
  · have : (nu (vl x) (vl y) == (vl x : Int) && (de (vl x) (vl y) == (vl y : Int) && true)) = false := by
      refine Bool.eq_false_iff.mpr fun z => h3 ?_
      simp only [Bool.and_true, Bool.and_eq_true, beq_iff_eq] at z
      exact z
    rw [this]
    rw [if_neg (fun z => h3 z.2)] at q
    exact ⟨rfl, q⟩
theorem w_fit (hd : 1 ≤ d) (ht : t.length ≤ 200) (q : ∀ h', Xt h h' → Q (rv t) h') : wS G d fiT [some (.str t), none, none, some (.int (s1 (ng t))), some (.str (rst t)), none] h (kR Q E) := by
  simp only [fiT, wS, wS1, w, wL, tbl, ttr, Mi.tOr, Mi.tAn, Mi.wAn, Mi.wOr, List.map_cons, List.map_nil, List.cons_append, List.nil_append, List.getElem?_cons_zero, List.getElem?_cons_succ, bindT, bindTs, seqT, List.length_cons, List.length_nil, Nat.reduceAdd, Nat.reduceSub, List.replicate, List.set_cons_zero, List.set_cons_succ]
  have hz : 1000 ≤ sizeLine := by decide
  have hr := rst_le t
  refine ⟨rfl, rfl, hd_by (v := .loc h.length) (h := h ++ [.lst ((wds t).map .str)]) ?_ ?_⟩
  · show chk (!(("/" : Str).length == 0) && decide ((rst t).length + 2 ≤ sizeLine)) (newL ((Txt.split (rst t) "/").map .str) h) = _
    rw [decide_eq_true (by omega)]
    rfl
  generalize e1 : h ++ [.lst ((wds t).map .str)] = h1
  have x1 : Xt h h1 := by rw [← e1]; exact Xt.app _ _
  have k1 : h1[h.length]? = some (.lst ((wds t).map .str)) := by rw [← e1]; exact at_end
  refine ⟨.seq (.loc h.length), mk_lst k1, xl_map ((wds t).map .str) (fun v => match v with | .str y => nv y | v => v) (fun h' i x' => item_lst (x'.2 _ _ k1)) (by rw [List.length_map]; have := wds_le t; omega) (fun v hv h' K _ kk => ?_) fun h2 x2 e2 => ?_⟩
  · obtain ⟨y, hy, rfl⟩ := List.mem_map.mp hv
    refine ⟨_, rfl, ?_⟩
    simp only [w, wL, wipeL, List.set_cons_zero, List.set_cons_succ, List.getElem?_cons_zero, List.getElem?_cons_succ]
    exact ⟨hd, x_lwhole F (by have := wd_le hy; omega) kk⟩
  have k2 : h2[h1.length]? = some (.lst ((wds t).map nv)) := by rw [e2, List.map_map]; rfl
  have k1 := x2.2 _ _ k1
  have q := q h2 (x1.trans x2)
  have lw : ∀ x ∈ wds t, x.length ≤ 200 := fun x hx => by have := wd_le hx; omega
  have hp := wds_pos t
  unfold rv rdg at q
  refine ⟨rfl, ow_by (in_none k2) ?_⟩
  cases ha : (wds t).all isW with
  | false =>
    refine ⟨rfl, ?_⟩
    have aw := List.all_eq_false.mp ha
    obtain ⟨z, hz1, hz2⟩ := aw
    split at q
    · rename_i p r e
      exfalso
      split at e
      · rename_i x hx
        rw [hx] at hz1
        cases List.mem_singleton.mp hz1
        unfold rd1 at e
        rw [if_neg (fun y => hz2 y.1)] at e
        cases e
      · rename_i x y hx
        rw [hx] at hz1
        unfold rd2 at e
        split at e
        · rename_i c
          simp only [List.mem_cons, List.not_mem_nil, or_false] at hz1
          rcases hz1 with rfl | rfl
          · exact hz2 c.1
          · exact hz2 c.2.1
        · cases e
      · cases e
    · exact q
  | true =>
    have aw := List.all_eq_true.mp ha
    refine hd_by (v_len k1) ⟨rfl, ow_by (v := .bl (decide ((((wds t).map Val.str).length : Int) > 2))) (h1 := h2) rfl ?_⟩
    generalize hws : wds t = ws at q k1 k2 aw hp lw
    match ws, hp with
    | [x], _ =>
      have hw := aw x (by simp)
      have sx := sm_vl hw (by have := lw x (by simp); omega)
      have kn : h2[h1.length]? = some (.lst [.int (vl x)]) := by rw [k2]; unfold nv; simp [hw]
      have i0 : atI ([.int (vl x)] : List Val) 0 = some (.int (vl x)) := rfl
      refine ⟨rfl, ow_by (v := .bl (decide (s1 (ng t) < 0))) (h1 := h2) rfl ?_⟩
      dsimp only at q
      unfold rd1 at q
      cases hn : ng t with
      | false =>
        rw [hn] at q
        rw [if_pos ⟨hw, by simp⟩] at q
        exact w_fir1 F k1 kn sx q
      | true =>
        rw [hn] at q
        refine ⟨rfl, hd_by (v_at kn i0) ⟨rfl, ow_by (v := .bl (decide ((vl x : Int) = 0))) (h1 := h2) rfl ?_⟩⟩
        by_cases h0 : vl x = 0
        · rw [decide_eq_true (by omega)]
          rw [if_neg (fun z => z.2 ⟨rfl, h0⟩)] at q
          exact ⟨rfl, q⟩
        · rw [decide_eq_false (by omega)]
          rw [if_pos ⟨hw, fun z => h0 z.2⟩] at q
          exact w_fir1 F k1 kn sx q
    | [x, y], _ =>
      have hw := aw x (by simp)
      have hw2 := aw y (by simp)
      have sx := sm_vl hw (by have := lw x (by simp); omega)
      have sy := sm_vl hw2 (by have := lw y (by simp); omega)
      have kn : h2[h1.length]? = some (.lst [.int (vl x), .int (vl y)]) := by rw [k2]; unfold nv; simp [hw, hw2]
      have i0 : atI ([.int (vl x), .int (vl y)] : List Val) 0 = some (.int (vl x)) := rfl
      refine ⟨rfl, ow_by (v := .bl (decide (s1 (ng t) < 0))) (h1 := h2) rfl ?_⟩
      dsimp only at q
      have q2 : Q (if 2 ≤ vl y ∧ nu (vl x) (vl y) = (vl x : Int) ∧ de (vl x) (vl y) = (vl y : Int) then pr (sv (ng t) (vl x)) (vl y) else .non) h2 := by
        unfold rd2 at q
        by_cases z : 2 ≤ vl y ∧ nu (vl x) (vl y) = (vl x : Int) ∧ de (vl x) (vl y) = (vl y : Int)
        · rw [if_pos z]
          rw [if_pos ⟨hw, hw2, z⟩] at q
          exact q
        · rw [if_neg z]
          rw [if_neg (fun y => z y.2.2)] at q
          exact q
      cases hn : ng t with
      | false =>
        rw [hn] at q2
        exact w_fir2 F k1 kn hd sx sy q2
      | true =>
        rw [hn] at q2
        refine ⟨rfl, hd_by (v_at kn i0) ⟨rfl, ow_by (v := .bl (decide ((vl x : Int) = 0))) (h1 := h2) rfl ?_⟩⟩
        by_cases h0 : vl x = 0
        · rw [decide_eq_true (by omega)]
          rw [if_neg ?_] at q2
          · exact ⟨rfl, q2⟩
          · rintro ⟨z1, z2, z3⟩
            have hv : (vl y : Int) ≠ 0 := by omega
            have l := lo_nd (a := (vl x : Int)) hv
            rw [z2, z3, h0] at l
            have := l.2
            simp at this
            omega
        · rw [decide_eq_false (by omega)]
          exact w_fir2 F k1 kn hd sx sy q2
    | x :: y :: z :: ws, _ =>
      rw [decide_eq_true (by simp; omega)]
      dsimp only at q
      exact ⟨rfl, q⟩
theorem x_fracin (hd : 1 ≤ d) (ht : t.length ≤ 200) (q : ∀ h', Xt h h' → Q (rv t) h') : XC G d k__law_fraction_in [.str t] h Q E := by
  refine xc F.d__law_fraction_in rfl ?_
  show wS G d b__law_fraction_in _ _ (kR Q E)
  rw [fi_eq]
  simp only [wS, wS1, w, wL, tbl, ttr, Mi.tOr, Mi.tAn, Mi.wAn, Mi.wOr, List.map_cons, List.map_nil, List.cons_append, List.nil_append, List.getElem?_cons_zero, List.getElem?_cons_succ, bindT, bindTs, seqT, List.length_cons, List.length_nil, Nat.reduceAdd, Nat.reduceSub, List.replicate, List.set_cons_zero, List.set_cons_succ]
  have hz : 1000 ≤ sizeLine := by decide
  have sl : ∀ lo hi, vSl (.str t) lo hi h = .ok (.str (cutS t lo hi)) h := fun lo hi => by
    show chk (decide (t.length ≤ sizeLine)) _ = _
    rw [decide_eq_true (by omega)]
    rfl
  refine ⟨rfl, hd_by (show slI2 (.str t) (.int 1) h = _ from sl none (some 1)) ⟨rfl, ow_by eq_s ?_⟩⟩
  have key := w_fit F (d := d) (E := E) hd ht q
  cases hn : ng t with
  | true =>
    rw [decide_eq_true ((cut1 t).mpr hn)]
    rw [hn] at key
    refine ⟨rfl, ow_by (v := .int (-1)) (h1 := h) rfl ⟨rfl, hd_by (show slI1 (.str t) (.int 1) h = _ from sl (some 1) none) ⟨szl, ?_⟩⟩⟩
    rw [cut2 t hn]
    exact key
  | false =>
    rw [decide_eq_false (fun z => by have := (cut1 t).mp z; rw [hn] at this; cases this)]
    have e : rst t = t := by unfold rst; rw [hn]; rfl
    rw [hn, e] at key
    exact ⟨rfl, szl, key⟩
end
end Lw

set_option Elab.async false
set_option linter.all false
set_option maxRecDepth 100000
set_option maxHeartbeats 1000000
namespace Lw
open PySem L2 Mi PySem.NumText PyProof.Rows
/-- a short text of plain signs -/
def Tsm (k : Nat) (x : Str) : Prop := x.length ≤ k ∧ ∀ c ∈ cp x, c < 128
theorem Tsm.up {k l : Nat} {x : Str} (h : Tsm k x) (hl : k ≤ l) : Tsm l x := ⟨Nat.le_trans h.1 hl, h.2⟩
theorem rep_s {h : LH} {x : Str} {k : Nat} (hx : Tsm k x) (hk : k ≤ 1000) : vRep (.str x) h = .ok (.str (PyData.str x).shown) h := by
  unfold vRep
  have e : toR 40 h (.str x) = some (.str x) := rfl
  rw [e]
  dsimp only
  have hl : (PyData.str x).shown.length ≤ sizeLine := by
    have := StrLaws.reprText_len x fun c hc => Nat.lt_trans (hx.2 c hc) (by decide)
    have h2 := hx.1
    have h3 : 20000 ≤ sizeLine := by decide
    show (reprText x).length ≤ sizeLine
    omega
  have c : (PyData.showable (.str x) && decide ((PyData.str x).shown.length ≤ sizeLine) && decide ((PyData.str x).depth ≤ 100)) = true := by
    rw [decide_eq_true hl]
    rfl
  rw [c]
  rfl
theorem vr {v : Val} {h : LH} {D : PyData} (e : toR 40 h v = some D) (o : (PyData.showable D && decide (D.shown.length ≤ sizeLine) && decide (D.depth ≤ 100)) = true) : vRep v h = .ok (.str D.shown) h := by
  unfold vRep
  rw [e]
  dsimp only
  rw [o]
  rfl
theorem ptx_eq {a b : Int} : ptx a b = if b = 1 then itx a else itx a ++ ("/" : Str) ++ itx b := by
  unfold ptx
  split
  · rfl
  · refine cp_ext ?_
    rw [cp_app, cp_app, cp_app, cp_app, cp_app]
    rfl
theorem tsm_cut {k : Nat} {x : Str} {lo hi : Option Int} (h : Tsm k x) : Tsm k (cutS x lo hi) := by
  have e : ∀ c ∈ cp (cutS x lo hi), c ∈ cp x := fun c hc => by
    have hc : c ∈ ((cp x).drop (HT.sIx x.length 0 lo)).take (HT.sIx x.length x.length hi - HT.sIx x.length 0 lo) := hc
    exact List.mem_of_mem_drop (List.mem_of_mem_take hc)
  refine ⟨?_, fun c hc => h.2 c (e c hc)⟩
  rw [cp_len]
  show (((cp x).drop (HT.sIx x.length 0 lo)).take (HT.sIx x.length x.length hi - HT.sIx x.length 0 lo)).length ≤ k
  rw [List.length_take, List.length_drop, ← cp_len]
  have := h.1
  omega
theorem tsm_app {k l : Nat} {x y : Str} (h : Tsm k x) (g : Tsm l y) : Tsm (k + l) (x ++ y) := by
  refine ⟨?_, fun c hc => ?_⟩
  · rw [Str.length_append]
    have := h.1
    have := g.1
    omega
  · rw [cp_app] at hc
    rcases List.mem_append.mp hc with z | z
    · exact h.2 c z
    · exact g.2 c z
def sg9 : List Val := [.str "0", .str "1", .str "/", .str "-", .str " ", .str "+", .str ".", .str "2", .str "a"]
theorem in9 {v : Val} (h : v ∈ sg9) : ∃ y, v = .str y ∧ Tsm 1 y := by
  simp only [sg9, List.mem_cons, List.not_mem_nil, or_false] at h
  rcases h with rfl | rfl | rfl | rfl | rfl | rfl | rfl | rfl | rfl
  all_goals exact ⟨_, rfl, by decide, by decide⟩
/-! ### the drawn fractions -/
def is1 : List Int := [0, 1, -1, 2, -3, 10, 12, -30, 999999]
def is2 : List Int := [1, 2, 3, 4, 10, 12, 35]
theorem all63 : ∀ i ∈ is1, ∀ j ∈ is2, rdg (ptx (nu i j) (de i j)) = some (nu i j, de i j) ∧ (ptx (nu i j) (de i j)).length ≤ 20 ∧ (∀ c ∈ cp (ptx (nu i j) (de i j)), c < 128) := by decide +kernel
section
variable {G : Prg} (F : FG G) {d : Nat} {h : LH} {Q : Val → LH → Prop} {E : EP} {v : Val} {a b a' b' : Int} {n m p : Nat} {x t : Str}
include F
theorem tk : TkOk G k__law_take 100589 38 10049 90 := ⟨F.d__law_take, by omega, by omega, by omega, by omega⟩
theorem pt : PtOk G k__law_pot 73 50 64408 8539 110 := ⟨F.d__law_pot, by omega, by omega, by omega⟩
theorem of_ (hd : 1 ≤ d) {q : Nat} {xs : List Val} (hp : Pot h p n) (hn : n < 2 ^ 60) (hq : h[q]? = some (.lst xs)) (hne : q ≠ p) (h0 : xs ≠ []) (hl : xs.length < 2 ^ 60)
    (k : ∀ (v : Val) (h' : LH), v ∈ xs → Pot h' p (n + 1) → Kp p h h' → Q v h') : XC G d k__law_of [.loc p, .loc q] h Q E := x_of (tk F) F.d__law_of hd hp hn hq hne h0 hl k
theorem take_ (hp : Pot h p n) (hn : n < 2 ^ 60) {u : Int} (h0 : 0 < u) (h1 : u < 2 ^ 60) (k : ∀ (r : Int) (h' : LH), Pot h' p (n + 1) → Kp p h h' → Q (.int r) h') : XC G d k__law_take [.loc p, .int u] h Q E := by
  exact x_tk (tk F) hp hn h0 h1 fun r h' _ _ hp' k' => k r h' hp' k'
theorem x_ptext (sa : Sm 1000 a) (sb : Sm 1000 b) (q : Q (.str (ptx a b)) h) : XC G d k__law_part_text [pr a b] h Q E := by
  refine xc F.d__law_part_text rfl ?_
  simp only [b__law_part_text, wS, wS1, w, wL, tbl, ttr, Mi.tOr, Mi.tAn, Mi.wAn, Mi.wOr, List.map_cons, List.map_nil, List.cons_append, List.nil_append, List.getElem?_cons_zero, List.getElem?_cons_succ, bindT, bindTs, seqT, List.length_cons, List.length_nil, Nat.reduceAdd, Nat.reduceSub, List.replicate, List.set_cons_zero, List.set_cons_succ]
  have la := itx_len sa
  have lb := itx_len sb
  have hz : 3000 ≤ sizeLine := by decide
  rw [ptx_eq] at q
  refine ⟨rfl, hd_by ix1 ⟨rfl, ow_by (v := .bl (decide (b = 1))) (h1 := h) rfl ?_⟩⟩
  by_cases hb : b = 1
  · rw [decide_eq_true hb]
    rw [if_pos hb] at q
    exact ⟨rfl, hd_by ix0 (hd_by (v_strI sa) q)⟩
  · rw [decide_eq_false hb]
    rw [if_neg hb] at q
    have l1 : (("/" : Str)).length = 1 := rfl
    refine ⟨rfl, hd_by ix0 (hd_by (v_strI sa) ⟨rfl, ow_by (v := .str (itx a ++ ("/" : Str))) (h1 := h) ?_ ⟨rfl, hd_by ix1 (hd_by (v_strI sb) (ow_by (v := .str (itx a ++ ("/" : Str) ++ itx b)) (h1 := h) ?_ q))⟩⟩)⟩
    · show chk (decide ((itx a).length + (("/" : Str)).length ≤ sizeLine)) _ = _
      rw [decide_eq_true (by omega)]
      rfl
    · show chk (decide ((itx a ++ ("/" : Str)).length + (itx b).length ≤ sizeLine)) _ = _
      rw [decide_eq_true (by rw [Str.length_append]; omega)]
      rfl
omit F in
theorem v_cut {lo hi : Option Int} (hx : x.length ≤ 1000) : vSl (.str x) lo hi h = .ok (.str (cutS x lo hi)) h := by
  show chk (decide (x.length ≤ sizeLine)) _ = _
  rw [decide_eq_true (Nat.le_trans hx (by decide))]
  rfl
omit F in
theorem v_cat {x y : Str} (hx : x.length + y.length ≤ 1000) : vBin .Add (.str x) (.str y) h = .ok (.str (x ++ y)) h := by
  show chk (decide (x.length + y.length ≤ sizeLine)) _ = _
  rw [decide_eq_true (Nat.le_trans hx (by decide))]
  rfl
theorem x_spoilt {K : Nat} (hd : 2 ≤ d) (hx : Tsm K x) (hK : K ≤ 50) (hp : Pot h p n) (hn : n < 2 ^ 50) (k : ∀ (y : Str) (h' : LH), Tsm (K + 1 + K) y → Pot h' p (n + 3) → Kp p h h' → Q (.str y) h') : XC G d k__law_spoilt [.loc p, .str x] h Q E := by
  refine xc F.d__law_spoilt rfl ?_
  simp only [b__law_spoilt, wS, wS1, w, wL, tbl, ttr, Mi.tOr, Mi.tAn, Mi.wAn, Mi.wOr, List.map_cons, List.map_nil, List.cons_append, List.nil_append, List.getElem?_cons_zero, List.getElem?_cons_succ, bindT, bindTs, seqT, List.length_cons, List.length_nil, Nat.reduceAdd, Nat.reduceSub, List.replicate, List.set_cons_zero, List.set_cons_succ]
  have hl := hx.1
  refine ⟨by omega, hd_by (v := .int x.length) (h := h) ?_ ⟨rfl, ow_by (v := .int (x.length + 1)) (h1 := h) rfl ?_⟩⟩
  · show ofO ((if x.length ≤ sizeLine then some x.length else none).map fun (n : Nat) => Val.int (n : Int)) h = _
    rw [if_pos (Nat.le_trans (Nat.le_trans hl hK) (by decide))]
    rfl
  refine take_ F hp (by omega) (by omega) (by omega) fun r h1 hp1 k1 => ⟨by omega, rfl, take_ F hp1 (by omega) (by decide) (by decide) fun w h2 hp2 k2 => ⟨szl, ?_⟩⟩
  refine ⟨by omega, rfl, rfl, rfl, rfl, rfl, rfl, rfl, rfl, rfl, szl, ?_⟩
  refine of_ F (by omega) hp2.app (by omega) at_end (Nat.ne_of_gt hp2.lt) (by simp) (by simp) fun v h3 hv hp3 k3 => ?_
  obtain ⟨y, rfl, hy⟩ := in9 hv
  have kk : Kp p h h3 := (k1.trans k2).trans ((Kp.app p _ _).trans k3)
  have c1 : ∀ lo hi, (cutS x lo hi).length ≤ K := fun lo hi => (tsm_cut hx).1
  have y1 := hy.1
  refine ⟨rfl, ow_by (v := .bl (decide (w = 0))) (h1 := h3) rfl ?_⟩
  by_cases hw : w = 0
  · rw [decide_eq_true hw]
    refine hd_by (show slI2 (.str x) (.int r) h3 = _ from v_cut (by omega)) (ow_by (v_cat (by have := c1 none (some r); omega)) (hd_by (show slI1 (.str x) (.int r) h3 = _ from v_cut (by omega)) (ow_by (v_cat ?_) ?_)))
    · rw [Str.length_append]
      have := c1 none (some r)
      have := c1 (some r) none
      omega
    · exact k _ _ (tsm_app (tsm_app (tsm_cut hx) hy) (tsm_cut hx)) hp3 kk
  · rw [decide_eq_false hw]
    refine ⟨rfl, ow_by (v := .bl (decide (w = 1))) (h1 := h3) rfl ?_⟩
    by_cases hw1 : w = 1
    · rw [decide_eq_true hw1]
      refine hd_by (show slI2 (.str x) (.int r) h3 = _ from v_cut (by omega)) ⟨rfl, ow_by (v := .int (r + 1)) (h1 := h3) rfl (hd_by (show slI1 (.str x) (.int (r + 1)) h3 = _ from v_cut (by omega)) (ow_by (v_cat ?_) ?_))⟩
      · have := c1 none (some r)
        have := c1 (some (r + 1)) none
        omega
      · exact k _ _ ((tsm_app (tsm_cut hx) (tsm_cut hx)).up (by omega)) hp3 kk
    · rw [decide_eq_false hw1]
      refine hd_by (show slI2 (.str x) (.int r) h3 = _ from v_cut (by omega)) (ow_by (v_cat (by have := c1 none (some r); omega)) ⟨rfl, ow_by (v := .int (r + 1)) (h1 := h3) rfl (hd_by (show slI1 (.str x) (.int (r + 1)) h3 = _ from v_cut (by omega)) (ow_by (v_cat ?_) ?_))⟩)
      · rw [Str.length_append]
        have := c1 none (some r)
        have := c1 (some (r + 1)) none
        omega
      · exact k _ _ (tsm_app (tsm_app (tsm_cut hx) hy) (tsm_cut hx)) hp3 kk
/-- Part.__eq__ of two alike -/
theorem x_eq (e : h[n]? = some (prt a b)) (e' : h[m]? = some (prt a b)) (q : Q (.bl true) h) : XC G d k_Part_eq_d [.loc n, .loc m] h Q E := by
  refine xc F.d_Part_eq_d rfl ?_
  simp only [b_Part_eq_d, wS, wS1, w, wL, tbl, ttr, Mi.tOr, Mi.tAn, Mi.wAn, Mi.wOr, List.map_cons, List.map_nil, List.cons_append, List.nil_append, List.getElem?_cons_zero, List.getElem?_cons_succ, bindT, bindTs, seqT, List.length_cons, List.length_nil, Nat.reduceAdd, Nat.reduceSub, List.replicate, List.set_cons_zero, List.set_cons_succ]
  obtain ⟨t1, ht, z | ⟨rfl, _⟩⟩ := (Num.prt e').ty
  · obtain ⟨_, z, _⟩ := z
    cases z
  refine hd_by (v_isi (pa F) ht ((pa F).i_part _ ht.2)) ?_
  rw [decide_eq_true rfl]
  refine att_num (pa F) e (att_num (pa F) e' (ow_by (v := .bl (decide (a = a))) (h1 := h) rfl ?_))
  rw [decide_eq_true rfl]
  refine att_und (pa F) e (att_und (pa F) e' (ow_by (v := .bl (decide (b = b))) (h1 := h) rfl ?_))
  rw [decide_eq_true rfl]
  exact q
theorem n_eq (hd : 2 ≤ d) (e : h[n]? = some (prt a b)) (e' : h[m]? = some (prt a b)) (q : Q (.bl false) h) : wNe G d (.loc n) (.loc m) h Q E := by
  have hs : sameC (.loc n) (.loc m) h = true := by
    unfold sameC
    rw [ins_p e, ins_p e']
    dsimp only
    rw [decide_eq_true rfl]
  have hm : mthO G (.loc n) "__eq__" h = some k_Part_eq_d := mth_p (pa F) e (pa F).m_eq
  unfold wNe neO
  dsimp only
  rw [hs]
  dsimp only
  rw [hm]
  exact ⟨hd, x_eq F e e' ⟨true, rfl, q⟩⟩
omit F in
theorem pw8 {h : LH} : vBin .Pow (.int 10) (.int 8) h = .ok (.int 100000000) h := by
  rw [Mi.v_pow (by decide)]
  rfl
omit F in
theorem ow_cat {i j : Nat} {xs ys : List Val} (ei : h[i]? = some (.lst xs)) (ej : h[j]? = some (.lst ys)) (hl : xs.length + ys.length ≤ 1000) (q : Q (.loc h.length) (h ++ [.lst (xs ++ ys)])) : wOwn G d (ownO G (dunB .Add) (.loc i) (.loc j) h) (vBin .Add (.loc i) (.loc j) h) h Q E := by
  have ho : ownO G (dunB .Add) (.loc i) (.loc j) h = none := by
    have : ∀ m, mthO G (.loc i) m h = none := fun m => by
      unfold mthO insO
      dsimp only
      rw [ei]
    unfold ownO
    dsimp only [dunB]
    rw [this, this]
    rfl
  refine ow_by (v := .loc h.length) (h1 := h ++ [.lst (xs ++ ys)]) ?_ q ho
  show (match h[i]?, h[j]? with
    | some (.lst a), some (.lst b) => chk (decide (a.length + b.length ≤ sizeLine)) (newL (a ++ b) h)
    | _, _ => .bad) = _
  rw [ei, ej]
  dsimp only
  rw [decide_eq_true (Nat.le_trans hl (by decide))]
  rfl
/-- a value that the law tries: a short text, or something of another class -/
def Vl (G : Prg) (h : LH) (v : Val) : Prop := (∃ x, v = .str x ∧ Tsm 101 x) ∨ ∀ h', Xt h h' → ∃ ty, Ty h' v ty ∧ ty ≠ .ty "str" ∧ ∃ y : Str, ∀ (d : Nat) (Q : Val → LH → Prop) (E : EP), 2 ≤ d → Q (.str y) h' → wRpr G d v h' Q E
omit F in
theorem Vl.xt {h h' : LH} {v : Val} (x : Xt h h') : Vl G h v → Vl G h' v
  | .inl z => .inl z
  | .inr z => .inr fun h2 x2 => z h2 (x.trans x2)
omit F in
theorem vl_s {y : Str} (hy : Tsm 101 y) : Vl G h (.str y) := .inl ⟨y, rfl, hy⟩
omit F in
theorem vl_c {v : Val} {ty : ClR} {D : PyData} (ht : ∀ h, Ty h v ty) (hs : ty ≠ .ty "str") (hr : ∀ h, toR 40 h v = some D) (o : (PyData.showable D && decide (D.shown.length ≤ sizeLine) && decide (D.depth ≤ 100)) = true) (hm : ∀ h, mthO G v "__repr__" h = none) : Vl G h v :=
  .inr fun h' _ => ⟨ty, ht h', hs, _, fun d Q E _ q => rp_by (vr (hr h') o) q (hm h')⟩
omit F in
theorem vl_l {i : Nat} {ob : Ob} {ty : ClR} {D : PyData} (e : h[i]? = some ob) (ht : ∀ h', h'[i]? = some ob → Ty h' (.loc i) ty) (hs : ty ≠ .ty "str") (hr : ∀ h', h'[i]? = some ob → toR 40 h' (.loc i) = some D) (o : (PyData.showable D && decide (D.shown.length ≤ sizeLine) && decide (D.depth ≤ 100)) = true) (hm : ∀ h', h'[i]? = some ob → mthO G (.loc i) "__repr__" h' = none) : Vl G h (.loc i) :=
  .inr fun h' x => ⟨ty, ht h' (x.2 _ _ e), hs, _, fun d Q E _ q => rp_by (vr (hr h' (x.2 _ _ e)) o) q (hm h' (x.2 _ _ e))⟩
theorem vl_p {i : Nat} (e : h[i]? = some (prt 1 1)) : Vl G h (.loc i) := .inr fun h' x => by
  obtain ⟨t1, ht, z | ⟨rfl, _⟩⟩ := (Num.prt (x.2 _ _ e)).ty
  · obtain ⟨_, z, _⟩ := z
    cases z
  · exact ⟨_, ht, by decide, _, fun d Q E hd q => rp_prt (pa F) hd (x.2 _ _ e) (Sm.one (by omega)) (Sm.one (by omega)) q⟩
omit F in
theorem lst_ty {i : Nat} {xs : List Val} {h' : LH} (e : h'[i]? = some (.lst xs)) : Ty h' (.loc i) (.ty "list") := by
  refine ⟨⟨?_, fun _ _ z => by cases z⟩, by decide⟩
  unfold tyO
  dsimp only
  rw [e]
omit F in
theorem dk_ty {i : Nat} {xs : List (Key × Val)} {h' : LH} (e : h'[i]? = some (.dK xs)) : Ty h' (.loc i) (.ty "dict") := by
  refine ⟨⟨?_, fun _ _ z => by cases z⟩, by decide⟩
  unfold tyO
  dsimp only
  rw [e]
omit F in
theorem no_m {i : Nat} {ob : Ob} {h' : LH} (e : h'[i]? = some ob) (ho : ∀ c fs, ob ≠ .slt c fs) : mthO G (.loc i) "__repr__" h' = none := by
  unfold mthO insO
  dsimp only
  rw [e]
  cases ob with
  | slt c fs => exact absurd rfl (ho c fs)
  | _ => rfl
def mn1 (k : Nat) : List Val := [.non, .bl true, .bl false, .int 0, .int 1, .int (-1), .int 2, .str "", .str "a", .str "p", .str "walks", .tup [], .loc k, .loc (k + 1), .tup [.int 0], .tup [.tup []], .loc (k + 2), .tup [.str "a", .str "b"]]
def mn2 (k : Nat) : List Val := [.tup [.tup [.str "a"]], .tup [.str "p", .str "q"], .tup [.non], .int 100000000, .str "A", .tup [.bl true], .loc k, .tup [.str "never"]]
omit F in
theorem tup_vl {xs : List Val} {D : PyData} (hr : ∀ h, toR 40 h (.tup xs) = some D) (o : (PyData.showable D && decide (D.shown.length ≤ sizeLine) && decide (D.depth ≤ 100)) = true) : Vl G h (.tup xs) := vl_c (ty := .ty "tuple") (fun _ => ⟨⟨rfl, fun _ _ z => by cases z⟩, by decide⟩) (by decide) hr o fun _ => rfl
omit F in
theorem mn_ok {k l : Nat} (h0 : h[k]? = some (.lst [])) (h1 : h[k + 1]? = some (.dK [])) (h2 : h[k + 2]? = some (.lst [.int 0])) (h4 : h[l]? = some (.dK [(.inr "a", .int 1)])) (hv : v ∈ mn1 k ++ mn2 l) : Vl G h v := by
  rcases List.mem_append.mp hv with hv | hv
  · simp only [mn1, List.mem_cons, List.not_mem_nil, or_false] at hv
    rcases hv with rfl | rfl | rfl | rfl | rfl | rfl | rfl | rfl | rfl | rfl | rfl | rfl | rfl | rfl | rfl | rfl | rfl | rfl
    · exact vl_c (ty := .ty "NoneType") (D := .none) (fun _ => ⟨⟨rfl, fun _ _ z => by cases z⟩, by decide⟩) (by decide) (fun _ => rfl) (by decide +kernel) fun _ => rfl
    · exact vl_c (ty := .ty "bool") (D := .bool true) (fun _ => ⟨⟨rfl, fun _ _ z => by cases z⟩, by decide⟩) (by decide) (fun _ => rfl) (by decide +kernel) fun _ => rfl
    · exact vl_c (ty := .ty "bool") (D := .bool false) (fun _ => ⟨⟨rfl, fun _ _ z => by cases z⟩, by decide⟩) (by decide) (fun _ => rfl) (by decide +kernel) fun _ => rfl
    · exact vl_c (ty := .ty "int") (D := .int 0) (fun _ => ⟨⟨rfl, fun _ _ z => by cases z⟩, by decide⟩) (by decide) (fun _ => rfl) (by decide +kernel) fun _ => rfl
    · exact vl_c (ty := .ty "int") (D := .int 1) (fun _ => ⟨⟨rfl, fun _ _ z => by cases z⟩, by decide⟩) (by decide) (fun _ => rfl) (by decide +kernel) fun _ => rfl
    · exact vl_c (ty := .ty "int") (D := .int (-1)) (fun _ => ⟨⟨rfl, fun _ _ z => by cases z⟩, by decide⟩) (by decide) (fun _ => rfl) (by decide +kernel) fun _ => rfl
    · exact vl_c (ty := .ty "int") (D := .int 2) (fun _ => ⟨⟨rfl, fun _ _ z => by cases z⟩, by decide⟩) (by decide) (fun _ => rfl) (by decide +kernel) fun _ => rfl
    · exact vl_s ⟨by decide, by decide⟩
    · exact vl_s ⟨by decide, by decide⟩
    · exact vl_s ⟨by decide, by decide⟩
    · exact vl_s ⟨by decide, by decide⟩
    · exact tup_vl (D := .tuple []) (fun _ => rfl) (by decide +kernel)
    · exact vl_l (D := .list []) h0 (fun _ e => lst_ty e) (by decide) (fun _ e => by rw [toR_lst e]; rfl) (by decide +kernel) fun _ e => no_m e fun _ _ z => by cases z
    · exact vl_l (D := .dict []) h1 (fun _ e => dk_ty e) (by decide) (fun _ e => by rw [toR_dK e]; rfl) (by decide +kernel) fun _ e => no_m e fun _ _ z => by cases z
    · exact tup_vl (D := .tuple [.int 0]) (fun _ => rfl) (by decide +kernel)
    · exact tup_vl (D := .tuple [.tuple []]) (fun _ => rfl) (by decide +kernel)
    · exact vl_l (D := .list [.int 0]) h2 (fun _ e => lst_ty e) (by decide) (fun _ e => by rw [toR_lst e]; rfl) (by decide +kernel) fun _ e => no_m e fun _ _ z => by cases z
    · exact tup_vl (D := .tuple [.str "a", .str "b"]) (fun _ => rfl) (by decide +kernel)
  · simp only [mn2, List.mem_cons, List.not_mem_nil, or_false] at hv
    rcases hv with rfl | rfl | rfl | rfl | rfl | rfl | rfl | rfl
    · exact tup_vl (D := .tuple [.tuple [.str "a"]]) (fun _ => rfl) (by decide +kernel)
    · exact tup_vl (D := .tuple [.str "p", .str "q"]) (fun _ => rfl) (by decide +kernel)
    · exact tup_vl (D := .tuple [.none]) (fun _ => rfl) (by decide +kernel)
    · exact vl_c (ty := .ty "int") (D := .int 100000000) (fun _ => ⟨⟨rfl, fun _ _ z => by cases z⟩, by decide⟩) (by decide) (fun _ => rfl) (by decide +kernel) fun _ => rfl
    · exact vl_s ⟨by decide, by decide⟩
    · exact tup_vl (D := .tuple [.bool true]) (fun _ => rfl) (by decide +kernel)
    · exact vl_l (D := .dict [(.str "a", .int 1)]) h4 (fun _ e => dk_ty e) (by decide) (fun _ e => by rw [toR_dK e]; rfl) (by decide +kernel) fun _ e => no_m e fun _ _ z => by cases z
    · exact tup_vl (D := .tuple [.str "never"]) (fun _ => rfl) (by decide +kernel)
theorem x_odd (hd : 2 ≤ d) (hp : Pot h p n) (hn : n < 2 ^ 59) (k : ∀ v h', Vl G h' v → Pot h' p (n + 1) → Kp p h h' → Q v h') : XC G d k__law_odd [.loc p] h Q E := by
  refine xc F.d__law_odd rfl ?_
  simp only [b__law_odd, wS, wS1, w, wL, tbl, ttr, Mi.tOr, Mi.tAn, Mi.wAn, Mi.wOr, List.map_cons, List.map_nil, List.cons_append, List.nil_append, List.getElem?_cons_zero, List.getElem?_cons_succ, bindT, bindTs, seqT, List.length_cons, List.length_nil, Nat.reduceAdd, Nat.reduceSub, List.replicate, List.set_cons_zero, List.set_cons_succ]
  refine ⟨rfl, rfl, rfl, rfl, rfl, rfl, ow_by (v := .int (-1)) (h1 := h) rfl ?_⟩
  refine ⟨rfl, rfl, rfl, rfl, rfl, szl, szl, rfl, szl, szl, szl, rfl, szl, rfl, rfl, szl, szl, by omega, rfl, szl, szl, rfl, rfl, szl, rfl, szl, rfl, rfl, ow_by pw8 ?_⟩
  have i1 : (h ++ [Ob.lst []]).length = h.length + 1 := by simp
  have i2 : (h ++ [Ob.lst []] ++ [Ob.dK []]).length = h.length + 2 := by simp
  have i3 : (h ++ [Ob.lst []] ++ [Ob.dK []] ++ [Ob.lst [.int 0]]).length = h.length + 3 := by simp
  rw [i1, i2, i3]
  generalize hA : (h ++ [Ob.lst []] ++ [Ob.dK []] ++ [Ob.lst [.int 0]] ++ [_]) = A
  have lA : A.length = h.length + 4 := by rw [← hA]; simp
  have f0 : A[h.length]? = some (.lst []) := by rw [← hA]; exact at_app (at_app (at_app at_end))
  have f1 : A[h.length + 1]? = some (.dK []) := by rw [← hA, ← i1]; exact at_app (at_app at_end)
  have f2 : A[h.length + 2]? = some (.lst [.int 0]) := by rw [← hA, ← i2]; exact at_app at_end
  have f3 : A[h.length + 3]? = some (.lst (mn1 h.length)) := by rw [← hA, ← i3]; exact at_end
  have pA : Pot A p n := by rw [← hA]; exact hp.app.app.app.app
  have kA : Kp p h A := by rw [← hA]; exact (((Kp.app p _ _).trans (Kp.app p _ _)).trans (Kp.app p _ _)).trans (Kp.app p _ _)
  clear hA
  refine ⟨rfl, rfl, szl, rfl, ?_⟩
  rw [show (A ++ [Ob.dK []])[A.length]? = some (.dK []) from at_end]
  dsimp only
  refine ⟨by decide, rfl, szl, szl, ?_⟩
  rw [ap_set0]
  have eB : ([Ob.dK []] : LH).set 0 (Ob.dK (Mi.putAll [] [("a" : Str)] [Val.int 1])) = [Ob.dK [(.inr "a", .int 1)]] := rfl
  rw [eB]
  generalize hB : A ++ [Ob.dK [(.inr "a", .int 1)]] = B
  have fB : ∀ k o, A[k]? = some o → B[k]? = some o := fun k o e => by rw [← hB]; exact at_app e
  have f4 : B[A.length]? = some (.dK [(.inr "a", .int 1)]) := by rw [← hB]; exact at_end
  have pB : Pot B p n := by rw [← hB]; exact pA.app
  have kB : Kp p h B := by rw [← hB]; exact kA.trans (Kp.app p _ _)
  clear hB
  refine ow_cat (xs := mn1 h.length) (ys := mn2 A.length) (at_app (fB _ _ f3)) at_end (by simp [mn1, mn2]) ?_
  refine of_ F (by omega) pB.app.app (by omega) at_end (by have := pB.lt; simp; omega) (by simp [mn1]) (by simp [mn1, mn2]) fun v h' hv hp' hk' => ?_
  have kk : Kp p B h' := ((Kp.app p _ _).trans (Kp.app p _ _)).trans hk'
  have hlt := hp.lt
  exact k v h' (mn_ok (kk.2 _ _ (by omega) (fB _ _ f0)) (kk.2 _ _ (by omega) (fB _ _ f1)) (kk.2 _ _ (by omega) (fB _ _ f2)) (kk.2 _ _ (by omega) f4) hv) hp' (kB.trans kk)
end
end Lw

set_option Elab.async false
set_option linter.all false
set_option maxRecDepth 100000
set_option maxHeartbeats 1000000
namespace Lw
open PySem L2 Mi PySem.NumText PyProof.Rows
theorem b1 : ∀ i ∈ is1, Sm 100 i := by unfold Sm; decide +kernel
theorem b2 : ∀ i ∈ is2, Sm 100 i ∧ i ≠ 0 := by unfold Sm; decide +kernel
def tx15 : List Val := [.str "", .str "0", .str "-0", .str "1/1", .str "2/4", .str "1/0", .str "0/3", .str "+1", .str "01", .str "1/02", .str "--1", .str "1/-2", .str " 1", .str "1/2/3", .str "/2", .str "1/", .str "-"]
theorem in15 {v : Val} (h : v ∈ tx15) : ∃ x, v = .str x ∧ Tsm 101 x := by
  simp only [tx15, List.mem_cons, List.not_mem_nil, or_false] at h
  rcases h with rfl | rfl | rfl | rfl | rfl | rfl | rfl | rfl | rfl | rfl | rfl | rfl | rfl | rfl | rfl | rfl | rfl
  all_goals exact ⟨_, rfl, by decide, by decide⟩
theorem sm_sv {s : Bool} {n : Nat} (h : Sm 1000 n) : Sm 1000 (sv s n) := by
  cases s
  · exact h
  · exact h.neg
theorem rdg_sm {t : Str} (ht : t.length ≤ 200) {p r : Int} (e : rdg t = some (p, r)) : Sm 1000 p ∧ Sm 1000 r := by
  unfold rdg at e
  split at e
  · rename_i x hx
    have lx := wd_le (t := t) (x := x) (by rw [hx]; simp)
    unfold rd1 at e
    split at e
    · rename_i c
      cases e
      exact ⟨sm_sv (sm_vl c.1 (by omega)), Sm.one (by omega)⟩
    · cases e
  · rename_i x y hx
    have lx := wd_le (t := t) (x := x) (by rw [hx]; simp)
    have ly := wd_le (t := t) (x := y) (by rw [hx]; simp)
    unfold rd2 at e
    split at e
    · rename_i c
      cases e
      exact ⟨sm_sv (sm_vl c.1 (by omega)), sm_vl c.2.1 (by omega)⟩
    · cases e
  · cases e
theorem v_ext {h : LH} {n q : Nat} {xs ys : List Val} (e : h[n]? = some (.lst xs)) (f : h[q]? = some (.lst ys)) (hl : xs.length + ys.length ≤ 1000) : vMt .extend (.loc n) [.loc q] h = .ok .non (h.set n (.lst (xs ++ ys))) := by
  show (match h[n]?, h[q]? with
    | some (.lst xs), some (.lst zs) => chk (decide (xs.length + zs.length ≤ sizeLine)) (.ok .non (h.set n (.lst (xs ++ zs))))
    | _, _ => .bad) = _
  rw [e, f]
  dsimp only
  rw [decide_eq_true (Nat.le_trans hl (by decide))]
  rfl
theorem Pot.setN {h : LH} {p n L : Nat} {o : Ob} (a : Pot h p n) (hL : L ≠ p) : Pot (h.set L o) p n := by
  obtain ⟨a1, b1, c1, e1, r⟩ := a
  exact ⟨a1, b1, c1, by rw [List.getElem?_set_ne hL]; exact e1, r⟩
theorem Kp.xt' {p : Nat} {h h' : LH} (x : Xt h h') : Kp p h h' := ⟨x.1, fun q o _ e => x.2 q o e⟩
theorem Pot.xt {h h' : LH} {p n : Nat} (a : Pot h p n) (x : Xt h h') : Pot h' p n := by
  obtain ⟨a1, b1, c1, e1, r⟩ := a
  exact ⟨a1, b1, c1, x.2 _ _ e1, r⟩
section
variable {G : Prg} (F : FG G) {d : Nat} {h : LH} {Q : Val → LH → Prop} {E : EP} {v : Val} {a b a' b' : Int} {n m p : Nat} {x t : Str}
include F
theorem isi_bad : vIsi G.isiT G.errs G.isC (.own "BadText") (.err "BadText" v) h = .ok (.bl true) h := by
  unfold vIsi
  rw [F.isi, F.errs]
  rfl
theorem fld_bad : vFld G.errs (.err "BadText" v) h = .ok v h := by
  unfold vFld
  rw [F.errs]
  rfl
theorem t_str {s0 s1 s2 s4 s5 s6 s7 s8 : Option Val} {Q' : EP} (hd : 7 ≤ d) (ht : t.length ≤ 200) (q0 : rdg t = none → ∀ h', Xt h h' → Q' "BadText" (.str t) h') (q1 : ∀ p r, rdg t = some (p, r) → ∀ (n : Nat) h', Xt h h' → h'[n]? = some (prt p r) → Q (.loc n) h') :
    XE G d (IE.cal 510 [IE.var 3]) [s0, s1, s2, some (.str t), s4, s5, s6, s7, s8] h Q Q' := by
  refine (ok_w _).1 _ _ _ _ ?_
  simp only [wS, wS1, w, wL, tbl, ttr, Mi.tOr, Mi.tAn, Mi.wAn, Mi.wOr, List.map_cons, List.map_nil, List.cons_append, List.nil_append, List.getElem?_cons_zero, List.getElem?_cons_succ, bindT, bindTs, seqT, List.length_cons, List.length_nil, Nat.reduceAdd, Nat.reduceSub, List.replicate, List.set_cons_zero, List.set_cons_succ]
  exact ⟨by omega, x_partof (tx F) (by omega) ht q0 q1⟩
theorem t_oth {s0 s1 s2 s4 s5 s6 s7 s8 : Option Val} {Q' : EP} (hd : 1 ≤ d) {ty : ClR} (ht : Ty h v ty) (hs : ty ≠ .ty "str") (q : Q' "BadText" v h) :
    XE G d (IE.cal 510 [IE.var 3]) [s0, s1, s2, some v, s4, s5, s6, s7, s8] h Q Q' := by
  refine (ok_w _).1 _ _ _ _ ?_
  simp only [wS, wS1, w, wL, tbl, ttr, Mi.tOr, Mi.tAn, Mi.wAn, Mi.wOr, List.map_cons, List.map_nil, List.cons_append, List.nil_append, List.getElem?_cons_zero, List.getElem?_cons_succ, bindT, bindTs, seqT, List.length_cons, List.length_nil, Nat.reduceAdd, Nat.reduceSub, List.replicate, List.set_cons_zero, List.set_cons_succ]
  exact ⟨hd, x_partof0 (tx F) ht hs q⟩
theorem x_right (hd : 14 ≤ d) (hp : Pot h p 0) : XC G d k__law_right [.loc p] h (fun v h' => v = .bl true ∧ Kp p h h') E := by
  refine xc F.d__law_right rfl ?_
  simp only [b__law_right, wS, wS1, w, wL, tbl, ttr, Mi.tOr, Mi.tAn, Mi.wAn, Mi.wOr, List.map_cons, List.map_nil, List.cons_append, List.nil_append, List.getElem?_cons_zero, List.getElem?_cons_succ, bindT, bindTs, seqT, List.length_cons, List.length_nil, Nat.reduceAdd, Nat.reduceSub, List.replicate, List.set_cons_zero, List.set_cons_succ]
  have hpl := hp.lt
  refine ⟨rfl, rfl, rfl, rfl, rfl, rfl, rfl, rfl, rfl, rfl, rfl, rfl, rfl, rfl, rfl, szl, rfl, rfl, szl, ?_⟩
  refine ow_cat (at_app at_end) at_end (by simp) ?_
  generalize e0 : (h ++ [Ob.lst _] ++ [Ob.lst _]) = h0
  have l0 : h.length < h0.length := by rw [← e0]; simp
  have kp0 : Kp p h h0 := by rw [← e0]; exact (Kp.app p _ _).trans (Kp.app p _ _)
  have pt0 : Pot h0 p 0 := by rw [← e0]; exact hp.app.app
  clear e0
  generalize eL : h0.length = L at l0 ⊢
  have hLp : L ≠ p := by omega
  refine ⟨rfl, .rng 0 10, rfl, ?_⟩
  refine xf_inv 10 (fun i sl h' => Pot h' p (11 * i) ∧ Kp p h h' ∧ (∃ xs, h'[L]? = some (.lst xs) ∧ xs.length ≤ 17 + 2 * i ∧ ∀ v ∈ xs, ∃ x, v = .str x ∧ Tsm 101 x) ∧ ∃ s2 s3 s4 s5 s6 s7 s8, sl = [some (.loc p), some (.loc L), s2, s3, s4, s5, s6, s7, s8])
    ⟨pt0.app, kp0.trans (Kp.app p _ _), ⟨tx15, by rw [← eL]; exact at_end, by decide, fun v hv => in15 hv⟩, _, _, _, _, _, _, _, rfl⟩ ?_ ?_
  · rintro i sl h1 hi ⟨hp1, k1, ⟨xs, ex, lx, hx⟩, s2, s3, s4, s5, s6, s7, s8, rfl⟩
    refine ⟨.int (0 + i), _, ?_, rfl, ?_⟩
    · show (if i < 10 then some (some (Val.int (0 + i))) else some none) = _
      rw [if_pos hi]
    simp only [wS, wS1, w, wL, tbl, ttr, Mi.tOr, Mi.tAn, Mi.wAn, Mi.wOr, List.map_cons, List.map_nil, List.cons_append, List.nil_append, List.getElem?_cons_zero, List.getElem?_cons_succ, bindT, bindTs, seqT, List.length_cons, List.length_nil, Nat.reduceAdd, Nat.reduceSub, List.replicate, List.set_cons_zero, List.set_cons_succ]
    refine ⟨by omega, by omega, rfl, rfl, rfl, ow_by rfl ⟨rfl, rfl, ow_by rfl ⟨rfl, rfl, rfl, ow_by rfl ⟨rfl, szl, ?_⟩⟩⟩⟩
    refine of_ F (by omega) hp1.app (by omega) at_end (Nat.ne_of_gt hp1.lt) (by simp) (by simp) fun v h2 hv hp2 k2 => ?_
    obtain ⟨i', hi', rfl⟩ := List.mem_map.mp (show v ∈ is1.map Val.int from hv)
    refine ⟨by omega, rfl, rfl, rfl, rfl, rfl, rfl, rfl, szl, ?_⟩
    refine of_ F (by omega) hp2.app (by omega) at_end (Nat.ne_of_gt hp2.lt) (by simp) (by simp) fun v h3 hv hp3 k3 => ?_
    obtain ⟨j', hj', rfl⟩ := List.mem_map.mp (show v ∈ is2.map Val.int from hv)
    have si := b1 i' hi'
    obtain ⟨sj, hj0⟩ := b2 j' hj'
    obtain ⟨hr, hlen, hch⟩ := all63 i' hi' j' hj'
    refine x_pair F.d__law_pair (si.up (by omega)) (sj.up (by omega)) hj0 ?_
    have l := lo_nd (a := i') hj0
    have sa : Sm 1000 (nu i' j') := (si.up (by omega) : Sm 1000 i').nu hj0
    have sb : Sm 1000 (de i' j') := (sj.up (by omega) : Sm 1000 j').de hj0
    generalize nu i' j' = a at hr hlen hch l sa ⊢
    generalize de i' j' = b at hr hlen hch l sb ⊢
    have ts : Tsm 20 (ptx a b) := ⟨hlen, hch⟩
    have k13 : Kp p h1 h3 := ((Kp.app p _ _).trans k2).trans ((Kp.app p _ _).trans k3)
    refine ⟨by omega, x_ptext F sa sb ?_⟩
    refine ⟨by omega, x_made (pa F) F.d__law_made (by omega) l sb (att_text (tx F) (by omega) at_end sa sb (rp_by (rep_s ts (by omega)) (rp_by (rep_s ts (by omega)) (ne_by ne_str ?_))))⟩
    refine ⟨by omega, x_partof (tx F) (by omega) (by omega) (fun z => by rw [hr] at z; cases z) fun p' r' z n4 h4 x4 e4 => ?_⟩
    rw [hr] at z
    cases z
    refine ⟨by omega, x_made (pa F) F.d__law_made (by omega) l sb (n_eq F (by omega) (at_app e4) at_end ?_)⟩
    have x34 : Xt h3 (h4 ++ [prt a b]) := ((Xt.app _ _).trans x4).trans (Xt.app _ _)
    generalize (h4 ++ [prt a b]) = h5 at x34 ⊢
    have hp5 := Pot.xt hp3 x34
    have k15 : Kp p h1 h5 := k13.trans (Kp.xt' x34)
    have eL5 : h5[L]? = some (.lst xs) := k15.2 _ _ hLp ex
    refine ⟨ok_lst eL5, by omega, x_spoilt F (by omega) ts (by omega) hp5 (by omega) fun y1 h6 t1 hp6 k6 => ⟨by omega, by omega, x_spoilt F (by omega) ts (by omega) hp6 (by omega) fun y2 h7 t2 hp7 k7 => x_spoilt F (by omega) t2 (by omega) hp7 (by omega) fun y3 h8 t3 hp8 k8 => ⟨szl, ?_⟩⟩⟩
    have k58 := k6.trans (k7.trans k8)
    have eL8 := k58.2 _ _ hLp eL5
    refine hd_by (v_ext (at_app eL8) at_end (by simp; omega)) ?_
    have hlt : L < (h8 ++ [Ob.lst [Val.str y1, Val.str y3]]).length := by
      have := (List.getElem?_eq_some_iff.mp eL8).1
      simp
      omega
    refine ⟨Pot.setN (Pot.more hp8.app (by omega)) hLp, ((k1.trans k15).trans (k58.trans (Kp.app p _ _))).setNew (by omega), ⟨_, List.getElem?_set_self hlt, by simp; omega, fun v hv => ?_⟩, _, _, _, _, _, _, _, rfl⟩
    rcases List.mem_append.mp hv with z | z
    · exact hx v z
    · simp only [List.mem_cons, List.not_mem_nil, or_false] at z
      rcases z with rfl | rfl
      · exact ⟨_, rfl, t1.up (by omega)⟩
      · exact ⟨_, rfl, t3.up (by omega)⟩
  · rintro sl h1 ⟨hp1, k1, ⟨xs, ex, lx, hx⟩, s2, s3, s4, s5, s6, s7, s8, rfl⟩
    refine ⟨rfl, ?_⟩
    simp only [wS, wS1, w, wL, tbl, ttr, Mi.tOr, Mi.tAn, Mi.wAn, Mi.wOr, List.map_cons, List.map_nil, List.cons_append, List.nil_append, List.getElem?_cons_zero, List.getElem?_cons_succ, bindT, bindTs, seqT, List.length_cons, List.length_nil, Nat.reduceAdd, Nat.reduceSub, List.replicate, List.set_cons_zero, List.set_cons_succ]
    refine ⟨rfl, rfl, rfl, rfl, szl, rfl, szl, rfl, rfl, szl, by omega, rfl, w_mk1 (pa F) (by omega) ⟨by omega, ?_⟩⟩
    refine x_odd F (by omega) hp1.app.app (by omega) fun vo h2 ho hp2 k2 => ⟨szl, ?_⟩
    have n1 : h1.length ≠ p := Nat.ne_of_gt hp1.lt
    have n2 : (h1 ++ [Ob.lst [Val.str "1"]]).length ≠ p := by have := hp1.lt; simp; omega
    have a1 : h2[h1.length]? = some (.lst [Val.str "1"]) := k2.2 _ _ n1 (at_app at_end)
    have a2 : h2[(h1 ++ [Ob.lst [Val.str "1"]]).length]? = some (prt 1 1) := k2.2 _ _ n2 at_end
    have eL2 : h2[L]? = some (.lst xs) := k2.2 _ _ hLp (at_app (at_app ex))
    have k12 : Kp p h1 h2 := ((Kp.app p _ _).trans (Kp.app p _ _)).trans k2
    refine ow_cat (at_app eL2) at_end (by simp; omega) ?_
    generalize hzs : xs ++ [Val.non, Val.int 0, Val.bl true, Val.int 1, Val.tup [], Val.loc h1.length, Val.tup [Val.str "1", Val.str "2"], Val.loc (h1 ++ [Ob.lst [Val.str "1"]]).length, vo] = zs
    have all : ∀ v ∈ zs, Vl G h2 v := fun v hv => by
      rw [← hzs] at hv
      rcases List.mem_append.mp hv with z | z
      · obtain ⟨y, rfl, ty⟩ := hx v z
        exact vl_s ty
      · simp only [List.mem_cons, List.not_mem_nil, or_false] at z
        rcases z with rfl | rfl | rfl | rfl | rfl | rfl | rfl | rfl | rfl
        · exact vl_c (ty := .ty "NoneType") (D := .none) (fun _ => ⟨⟨rfl, fun _ _ z => by cases z⟩, by decide⟩) (by decide) (fun _ => rfl) (by decide +kernel) fun _ => rfl
        · exact vl_c (ty := .ty "int") (D := .int 0) (fun _ => ⟨⟨rfl, fun _ _ z => by cases z⟩, by decide⟩) (by decide) (fun _ => rfl) (by decide +kernel) fun _ => rfl
        · exact vl_c (ty := .ty "bool") (D := .bool true) (fun _ => ⟨⟨rfl, fun _ _ z => by cases z⟩, by decide⟩) (by decide) (fun _ => rfl) (by decide +kernel) fun _ => rfl
        · exact vl_c (ty := .ty "int") (D := .int 1) (fun _ => ⟨⟨rfl, fun _ _ z => by cases z⟩, by decide⟩) (by decide) (fun _ => rfl) (by decide +kernel) fun _ => rfl
        · exact tup_vl (D := .tuple []) (fun _ => rfl) (by decide +kernel)
        · exact vl_l (D := .list [.str "1"]) a1 (fun _ e => lst_ty e) (by decide) (fun _ e => by rw [toR_lst e]; rfl) (by decide +kernel) fun _ e => no_m e fun _ _ z => by cases z
        · exact tup_vl (D := .tuple [.str "1", .str "2"]) (fun _ => rfl) (by decide +kernel)
        · exact vl_p F a2
        · exact ho
    clear hzs
    generalize hgz : h2 ++ [Ob.lst _] = h3
    have x23 : Xt h2 h3 := by rw [← hgz]; exact Xt.app _ _
    clear hgz
    refine ⟨.seq (.loc h3.length), mk_lst at_end, ?_⟩
    generalize hg4 : h3 ++ [Ob.lst zs] = h4
    have x34 : Xt h3 h4 := by rw [← hg4]; exact Xt.app _ _
    have ez : h4[h3.length]? = some (.lst zs) := by rw [← hg4]; exact at_end
    clear hg4
    refine xf_inv zs.length (fun j sl h' => Xt h4 h' ∧ ∃ s2 s3 s4 s5 s6 s7 s8, sl = [some (.loc p), some (.loc L), s2, s3, s4, s5, s6, s7, s8]) ⟨Xt.refl _, _, _, _, _, _, _, _, rfl⟩ ?_ ?_
    · rintro j sl h5 hj ⟨x5, s2, s3, s4, s5, s6, s7, s8, rfl⟩
      refine ⟨zs[j], _, ?_, rfl, ?_⟩
      · rw [item_lst (x5.2 _ _ ez), List.getElem?_eq_getElem hj]
      have hu := all _ (List.getElem_mem hj)
      generalize zs[j] = u at hu ⊢
      simp only [wS, wS1, w, wL, tbl, ttr, Mi.tOr, Mi.tAn, Mi.wAn, Mi.wOr, List.map_cons, List.map_nil, List.cons_append, List.nil_append, List.getElem?_cons_zero, List.getElem?_cons_succ, bindT, bindTs, seqT, List.length_cons, List.length_nil, Nat.reduceAdd, Nat.reduceSub, List.replicate, List.set_cons_zero, List.set_cons_succ]
      rcases hu with ⟨y, rfl, ty⟩ | hu
      · have hty : Ty h5 (.str y) (.ty "str") := ⟨⟨rfl, fun _ _ z => by cases z⟩, by decide⟩
        have ly := ty.1
        refine hd_by (v_isi (pa F) hty ((tx F).i_str _ hty.2)) ?_
        rw [decide_eq_true rfl]
        refine ⟨by omega, x_fracin F (by omega) (by omega) fun h6 x6 => ⟨by omega, ?_⟩⟩
        refine t_str F (by omega) (by omega) (fun z h7 x7 => ⟨(tx F).badT, ?_⟩) fun p' r' z n7 h7 x7 e7 => ?_
        · have hrv : rv y = .non := by unfold rv; rw [z]
          rw [hrv]
          refine ⟨rfl, ow_by (v := .bl true) (h1 := h7) rfl (hd_by (isi_bad F) (hd_by (fld_bad F) (rp_by (rep_s ty (by omega)) (rp_by (rep_s ty (by omega)) (ne_by ne_str ?_)))))⟩
          exact ⟨x5.trans (x6.trans x7), _, _, _, _, _, _, _, rfl⟩
        · have hrv : rv y = pr p' r' := by unfold rv; rw [z]
          rw [hrv]
          obtain ⟨sp, sr⟩ := rdg_sm (by omega) z
          refine ⟨rfl, ow_by (v := .bl false) (h1 := h7) rfl ⟨rfl, ow_by (v := .bl false) (h1 := h7) rfl (att_pnum (pp F) (by omega) e7 (att_pund (pp F) (by omega) e7 ⟨szl, rp_by (rep2 sp sr) (rp_by (rep2 sp sr) (ne_by ne_str ?_))⟩))⟩⟩
          exact ⟨x5.trans (x6.trans x7), _, _, _, _, _, _, _, rfl⟩
      · obtain ⟨ty, ht, hs, y, hy⟩ := hu h5 ((x23.trans x34).trans x5)
        refine hd_by (v_isi (pa F) ht ((tx F).i_str _ ht.2)) ?_
        rw [decide_eq_false hs]
        refine ⟨rfl, by omega, t_oth F (by omega) ht hs ⟨(tx F).badT, ?_⟩⟩
        refine ⟨rfl, ow_by (v := .bl true) (h1 := h5) rfl (hd_by (isi_bad F) (hd_by (fld_bad F) (hy _ _ _ (by omega) (hy _ _ _ (by omega) (ne_by ne_str ?_)))))⟩
        exact ⟨x5, _, _, _, _, _, _, _, rfl⟩
    · rintro sl h5 ⟨x5, s2, s3, s4, s5, s6, s7, s8, rfl⟩
      refine ⟨?_, rfl, trivial, (k1.trans k12).trans (Kp.xt' ((x23.trans x34).trans x5))⟩
      rw [item_lst (x5.2 _ _ ez), List.getElem?_eq_none (Nat.le_refl _)]
end
theorem pure_law (ns : List Int) (hl : ns.length ≤ 63) : XC T.G 20 0 [.cl (ns.map .int)] [] (fun v _ => v = .bl true) noX :=
  x_law (pt fg) (kc := k__law_cells) (kr := k__law_right) (l := 6) fg.d__law_cells (by omega) fg.d_law (by omega) (fun h p hp => x_right fg (by omega) hp) hl
end Lw

set_option Elab.async false
set_option linter.all false
set_option maxRecDepth 100000
set_option maxHeartbeats 0

open PySem PySem.W PySem.Calls PyProof.Rows
theorem Lw.hrec : ∀ y ∈ Lw.T.lams, ∃ r, (recsOf (view (OpenLaw.row PySem.Challenge.rw_somepoured_k03_texts_of_parts).prog [34, 35])).find? (fun e => e.name == y) = some r := by
  intro y hy
  have hy : y ∈ (["_law_right"] : List PySem.Str) := hy
  simp only [List.mem_cons, List.not_mem_nil, or_false] at hy

  rcases hy with rfl
  · exact Option.isSome_iff_exists.mp (by kernel_rfl)
theorem Lw.holds : PySem.Challenge.rw_somepoured_k03_texts_of_parts.Holds := by
  w_on; o_law
  refine HandSHeadRun.head_any (r := OpenLaw.row PySem.Challenge.rw_somepoured_k03_texts_of_parts) (q := view (OpenLaw.row PySem.Challenge.rw_somepoured_k03_texts_of_parts).prog [34, 35]) (H := Lw.hk) (ob := Lw.ob) (M := 6000) (loose := Lw.loose) (d := HandSHeadRun.topDef (OpenLaw.row PySem.Challenge.rw_somepoured_k03_texts_of_parts).prog 35) (kwd := []) Lw.ob_eq
    (by kernel_rfl) (fun s => by kernel_rfl) Lw.run (by kernel_rfl) (by kernel_rfl) (by kernel_rfl) (by rfl) (by first | assumption | decide +kernel) (by decide +kernel) ⟨rfl, rfl, rfl, rfl, rfl, by decide +kernel⟩ ?hw ?hc
  case hw => w_witness2
  case hc =>
    exact Mi.walk_T (l := PySem.Challenge.rw_somepoured_k03_texts_of_parts) (T := Lw.T) (D := 20) (kl := 0) (x := "_law_script") (tl := Lw.tx_law) rfl (by kernel_rfl) ⟨rfl, by decide, by decide⟩ Lw.hrec (by kernel_rfl) rfl Lw.ok_all Lw.c1 Lw.c2 Lw.c3 Lw.c4 Lw.ti Lw.tt rfl rfl rfl rfl rfl (by kernel_rfl) (fun _ _ _ _ _ _ us hl => match us, hl with | [_], _ => rfl) Lw.pure_law
theorem PySem.Challenge.cw_somepoured_k03_texts_of_parts_holds : PySem.Challenge.rw_somepoured_k03_texts_of_parts.Holds := by
  exact Lw.holds

