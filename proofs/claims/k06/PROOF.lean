import PyProof.Rows.All
import HandS.ForMost
import HandS.Exc
import HandS.ExcOwn
import HandS.TryOnly
import HandS.WordsExc
import HandS.Walk
import HandS.Defaults
import HandS.Deep
import HandS.Style
import HandS.Zip
import HandS.IsInst
import HandS.TupAny
import HandS.TupMul
import KE.KDictKeyed
import HandS.Lambda
import KE.DataEq
import KE.DataFind
import KE.DataMinMax
import KE.SortData
import HandS.Strs
import PyProof.AutoSeq1
import HandS.ExcIs
import HandS.Head0
import HandS.Head1
import HandS.Head2
import HandS.HeadEnd
import HandS.HeadHook1
import HandS.HeadHook2
import HandS.EndTab
import HandS.HeadWalk
import KE.KTupSum
import KE.GoesEnum
import KE.GoesMore
import PyProof.Draws
import HandS.Conv
import HandS.TupLe
import HandS.SetFor
import KE.GoesRaise
import HandS.SortInts
import HandS.Remove
import HandS.HotCalls
import PyProof.CodeObj
import HandS.HeadHook4
import PySem.Challenge.RW_fourfold_k06_measures_refused
set_option Elab.async false
set_option linter.all false
set_option maxRecDepth 100000
set_option maxHeartbeats 4000000
/-! data, results, how data lies in the heap -/
namespace FF
open PySem PySem.Spec PyProof.Rows L2

/-- a key of a dict -/
abbrev DKey := Sum Key (List Key)
/-- data; ol, ol2, od, oi: a list, a list of lists, a dict, an instance that one name alone holds -/
inductive D where
  | non | bl (b : Bool) | int (i : Int) | str (x : Str)
  | tup (xs : List D) | lst (xs : List D) | src (ns : List Int)
  | dic (ks : List DKey) (vs : List D)
  | exc (c : Str) | fn (x : Str)
  | ol (xs : List D) | ol2 (xss : List (List D)) | od (ks : List DKey) (vs : List D) | oi (c : Str) (ks : List Str) (vs : List D)
  | odT (ks : List (List Key)) (vs : List D) | kt (ks : List Key)
  /-- a dict with keys of any depth, that one name alone holds -/
  | odN (ks : List NestedKey) (vs : List D)
  /-- a tuple that is known to have no dict of its own -/
  | row (xs : List D)
  /-- an object at an address; an instance that nobody changes; a table of code objects -/
  | ob (p : Addr) | inst (c : Str) (ks : List Str) (ds : List D) | tab (q : Str)

inductive R (α : Type) where
  | ok (a : α) | exc (c : Str) | stuck
def R.bind {α β : Type} (x : R α) (f : α → R β) : R β := match x with
  | .ok a => f a
  | .exc c => .exc c
  | .stuck => .stuck
instance : Monad R where
  pure := R.ok
  bind := R.bind
@[simp] theorem R.pure_eq {α : Type} (a : α) : (pure a : R α) = R.ok a := rfl
@[simp] theorem R.ok_bind {α β : Type} (a : α) (f : α → R β) : (R.ok a >>= f) = f a := rfl
@[simp] theorem R.exc_bind {α β : Type} (c : Str) (f : α → R β) : ((R.exc c : R α) >>= f) = R.exc c := rfl
@[simp] theorem R.stuck_bind {α β : Type} (f : α → R β) : ((R.stuck : R α) >>= f) = R.stuck := rfl
/-- what holds of a result -/
def R.post {α : Type} (r : R α) (P : α → Prop) (E : Str → Prop) : Prop := match r with
  | .ok a => P a
  | .exc c => E c
  | .stuck => False
theorem R.post_bind {α β : Type} {r : R α} {f : α → R β} {P : β → Prop} {E : Str → Prop} (h : (r >>= f).post P E) : r.post (fun a => (f a).post P E) E := by
  cases r with
  | ok a => exact h
  | exc c => exact h
  | stuck => exact h
theorem R.post_imp {α : Type} {r : R α} {P P' : α → Prop} {E E' : Str → Prop} (h : r.post P E) (hp : ∀ a, r = .ok a → P a → P' a) (he : ∀ c, r = .exc c → E c → E' c) : r.post P' E' := by
  cases r with
  | ok a => exact hp a rfl h
  | exc c => exact he c rfl h
  | stuck => exact h

/-! ### the heap without some addresses -/
def minus (H : Hp) (O : List Addr) : Hp := fun a => if a ∈ O then none else H a
theorem minus_some {H : Hp} {O : List Addr} {a : Addr} {o : HO} : minus H O a = some o ↔ a ∉ O ∧ H a = some o := by
  unfold minus
  by_cases h : a ∈ O <;> simp [h]
theorem minus_sub {H : Hp} {O : List Addr} : Same (minus H O) H := fun a o h => (minus_some.mp h).2

/-- a list of keys and values as a dict's pairs -/
def DicAt (G : Hp) (a : Addr) (ks : List DKey) (vs : List V) : Prop :=
  (∃ kk : List Key, ks = kk.map .inl ∧ kk.length = vs.length ∧ Rd G a (.dK (kk.zip vs))) ∨
  (∃ kt : List (List Key), ks = kt.map .inr ∧ kt.length = vs.length ∧ Rd G a (.dT (kt.zip vs)))
/-- the same, the keys numbers or texts -/
def DicK (G : Hp) (a : Addr) (ks : List DKey) (vs : List V) : Prop := ∃ kk : List Key, ks = kk.map .inl ∧ kk.length = vs.length ∧ Rd G a (.dK (kk.zip vs))
/-- a dict with keys of any depth: keys, where they stand, values -/
def NOk (prog : Program) (w : World) (p : Addr) (xs : List (NestedKey × Addr × V)) (h : Heap) : Prop := xs.length ≤ sizeLine ∧ (p == sysModules) = false ∧
  ∃ zs : List (NestedKey × Addr × Value), Paired (fun a b => a.1 = b.1 ∧ a.2.1 = b.2.1 ∧ RelV a.2.2 b.2.2) xs zs ∧
    ∃ o es ep, h.get? p = some o ∧ o.ExactDict ∧ o.data = .dict es ep ∧ es.toList = zs.map (entryOfKey (nestedKind prog w)) ∧ (zs.map (·.1)).Nodup
def NDictO (prog : Program) (w : World) (p : Addr) (xs : List (NestedKey × Addr × V)) : HO := .ext (NOk prog w p xs)
/-- an exception object of the class at C -/
def ExcAt (a C : Addr) : HO := .ext fun h => ∃ oe, h.get? a = some oe ∧ Zc (.ref C) none oe ∧ ∃ vs, oe.data = .fields vs
theorem Same.rd {H H' : Hp} {a : Addr} {u : HO} (e : Same H H') (h : Rd H a u) : Rd H' a u := by
  rcases h with h | ⟨o, h⟩
  · exact .inl (e _ _ h)
  · exact .inr ⟨o, e _ _ h⟩
/-- a tuple that stands there as such, or one of the written part -/
def TpT (K : PySem.W.Frag) (H : Hp) (a : Addr) (xs : List V) : Prop := H a = some (.tup xs) ∨
  ∃ (o : Obj) (its : Array Value) (n : Nat), K.lookup a = some o ∧ o.cls = .type "tuple" ∧ o.data = .seq its n ∧ its.size ≤ sizeLine ∧ Vals xs its.toList
theorem TpT.sq {K : PySem.W.Frag} {H : Hp} {a : Addr} {xs : List V} (h : TpT K H a xs) : SqT K H a xs := h.imp .inl id
theorem TpT.of_all {K : PySem.W.Frag} {a : Addr} {xs : List V} (h : ∀ G, SqT K G a xs) (G : Hp) : TpT K G a xs := by
  rcases h (fun _ => none) with z | z
  · rcases z with z | ⟨_, z⟩ <;> cases z
  · exact .inr z
theorem Same.tpT {K : PySem.W.Frag} {H H' : Hp} {a : Addr} {xs : List V} (e : Same H H') (h : TpT K H a xs) : TpT K H' a xs := h.imp (e _ _) id
theorem Same.seqT {K : PySem.W.Frag} {H H' : Hp} {a : Addr} {xs : List V} (e : Same H H') (h : SqT K H a xs) : SqT K H' a xs := by
  rcases h with h | h
  · exact .inl (Same.rd e h)
  · exact .inr h
mutual
theorem dp_same {K : PySem.W.Frag} {H H' : Hp} (e : Same H H') : ∀ {v : V} {d : PyData}, Dp K H v d → Dp K H' v d
  | _, _, .non => .non
  | _, _, .bl b => .bl b
  | _, _, .int i => .int i
  | _, _, .str x => .str x
  | _, _, .lst h1 h2 => .lst (e.seq h1) (dpAll_same e h2)
  | _, _, .tup h1 h2 => .tup (Same.seqT e h1) (dpAll_same e h2)
theorem dpAll_same {K : PySem.W.Frag} {H H' : Hp} (e : Same H H') : ∀ {vs : List V} {ds : List PyData}, DpAll K H vs ds → DpAll K H' vs ds
  | _, _, .nil => .nil
  | _, _, .cons a b => .cons (dp_same e a) (dpAll_same e b)
end
theorem DicAt.mono {H H' : Hp} {a : Addr} {ks : List DKey} {vs : List V} (e : Same H H') (h : DicAt H a ks vs) : DicAt H' a ks vs := by
  rcases h with ⟨kk, h1, h2, h3⟩ | ⟨kk, h1, h2, h3⟩
  · exact .inl ⟨kk, h1, h2, Same.rd e h3⟩
  · exact .inr ⟨kk, h1, h2, Same.rd e h3⟩

/-- the written part, the module's names -/
structure Bd where
  K : PySem.W.Frag
  mg : Str → Option Value
  prog : Program
  w : World
section
variable (B : Bd)
mutual
/-- v is the datum, in the heap G, which nobody changes -/
def Rep (G : Hp) : D → V → Prop
  | .non, v => v = .non
  | .bl b, v => v = .bl b
  | .int i, v => v = .int i
  | .str x, v => v = .str x
  | .tup ds, v => ∃ a vs, v = .ref a ∧ TpT B.K G a vs ∧ RepL G ds vs
  | .lst ds, v => ∃ a vs, v = .ref a ∧ G a = some (.lst vs) ∧ RepL G ds vs
  | .src ns, v => ∃ a, v = .ref a ∧ SqL B.K G a (ns.map V.int)
  | .dic ks ds, v => ∃ a vs, v = .ref a ∧ DicAt G a ks vs ∧ RepL G ds vs
  | .exc c, v => ∃ a C, v = .ref a ∧ B.mg c = some (.ref C) ∧ Rd G a (ExcAt a C)
  | .fn x, v => ∃ f, v = .ref f ∧ B.mg x = some (.ref f)
  | .ol _, _ => False
  | .ol2 _, _ => False
  | .od _ _, _ => False
  | .oi _ _ _, _ => False
  | .odT _ _, _ => False
  | .odN _ _, _ => False
  | .kt _, _ => False
  | .row ds, v => ∃ a o vs, v = .ref a ∧ o.cls = .type "tuple" ∧ o.dict = none ∧ G a = some (.frz o (.tup vs)) ∧ RepL G ds vs
  | .ob p, v => v = .ref p
  | .inst c ks ds, v => ∃ a dx C vs, v = .ref a ∧ B.mg c = some (.ref C) ∧ ks.length = vs.length ∧ G a = some (.ins C dx (ks.zip vs)) ∧ RepL G ds vs
  | .tab _, _ => False
def RepL (G : Hp) : List D → List V → Prop
  | [], vs => vs = []
  | d :: ds, vs => ∃ v r, vs = v :: r ∧ Rep G d v ∧ RepL G ds r
end
def D.isOwn : D → Bool
  | .ol _ => true
  | .ol2 _ => true
  | .od _ _ => true
  | .oi _ _ _ => true
  | .odT _ _ => true
  | .odN _ _ => true
  | .kt _ => true
  | .tab _ => true
  | _ => false
/-- rows, each a list at its own address -/
def Rows (G H : Hp) : List (List D) → List Addr → Prop
  | [], ps => ps = []
  | xs :: xss, ps => ∃ p r vs, ps = p :: r ∧ H p = some (.lst vs) ∧ RepL B G xs vs ∧ Rows G H xss r
mutual
/-- the same of what a name may own: fp its addresses; G the part that nobody changes, H the whole -/
def OR (G H : Hp) : D → V → List Addr → Prop
  | .ol ds, v, fp => ∃ p vs, v = .ref p ∧ H p = some (.lst vs) ∧ fp = [p] ∧ RepL B G ds vs
  | .ol2 xss, v, fp => ∃ p ps, v = .ref p ∧ H p = some (.lst (ps.map V.ref)) ∧ fp = p :: ps ∧ Rows B G H xss ps
  | .od ks ds, v, fp => ∃ p vs, v = .ref p ∧ DicK H p ks vs ∧ Mut (H p) ∧ fp = [p] ∧ RepL B G ds vs
  | .oi c ks ds, v, fp => ∃ p dx C vs fq, v = .ref p ∧ B.mg c = some (.ref C) ∧ ks.length = vs.length ∧ H p = some (.ins C dx (ks.zip vs)) ∧ H dx = some (.own p) ∧ fp = p :: dx :: fq ∧ ORL G H ds vs fq
  | .odT ks ds, v, fp => ∃ p vs, v = .ref p ∧ H p = some (.dT (ks.zip vs)) ∧ ks.length = vs.length ∧ fp = [p] ∧ RepL B G ds vs
  | .odN ks ds, v, fp => ∃ p xs, v = .ref p ∧ H p = some (NDictO B.prog B.w p xs) ∧ ks = xs.map (·.1) ∧ (∀ x ∈ xs, Dp B.K G (.ref x.2.1) x.1.data ∧ x.1.depth ≤ 8) ∧ fp = [p] ∧ RepL B G ds (xs.map (·.2.2))
  | .kt ks, v, fp => fp = [] ∧ ∃ b, v = .ref b ∧ G b = some (.tup (ks.map kV))
  | .tab q, v, fp => ∃ p ps, v = .ref p ∧ H p = some (.tbl ps) ∧ fp = [p] ∧ TriplesOk ps.toList ∧ ∀ (pos : Pos) (cv : Value), codeAmong pos ps.toList = some cv → ∃ c, cv = .ref c ∧ G c = some (LamX.CodeO c q)
  | d, v, fp => fp = [] ∧ Rep B G d v
def ORL (G H : Hp) : List D → List V → List Addr → Prop
  | [], vs, fp => vs = [] ∧ fp = []
  | d :: ds, vs, fp => ∃ v r f1 f2, vs = v :: r ∧ fp = f1 ++ f2 ∧ OR G H d v f1 ∧ ORL G H ds r f2
end
end
theorem rep_sq {B : Bd} {G : Hp} {ds : List D} {v : V} (h : Rep B G (.tup ds) v) : ∃ a vs, v = .ref a ∧ SqT B.K G a vs ∧ RepL B G ds vs := by
  unfold Rep at h
  obtain ⟨a, vs, h1, h2, h3⟩ := h
  exact ⟨a, vs, h1, h2.sq, h3⟩
theorem OR_frz {B : Bd} {G H : Hp} {d : D} {v : V} {fp : List Addr} (h : d.isOwn = false) : OR B G H d v fp ↔ (fp = [] ∧ Rep B G d v) := by
  cases d <;> first | (simp only [D.isOwn] at h; done) | (unfold OR; exact Iff.rfl) | cases h
mutual
theorem Rep.mono {B : Bd} {G G' : Hp} (e : Same G G') : ∀ {d : D} {v : V}, Rep B G d v → Rep B G' d v
  | .non, _, h => h
  | .bl _, _, h => h
  | .int _, _, h => h
  | .str _, _, h => h
  | .tup ds, _, h => by
    unfold Rep at h ⊢
    obtain ⟨a, vs, h1, h2, h3⟩ := h
    exact ⟨a, vs, h1, Same.tpT e h2, RepL.mono e h3⟩
  | .lst ds, _, h => by
    unfold Rep at h ⊢
    obtain ⟨a, vs, h1, h2, h3⟩ := h
    exact ⟨a, vs, h1, e _ _ h2, RepL.mono e h3⟩
  | .src ns, _, h => by
    unfold Rep at h ⊢
    obtain ⟨a, h1, h2⟩ := h
    exact ⟨a, h1, e.seq h2⟩
  | .dic ks ds, _, h => by
    unfold Rep at h ⊢
    obtain ⟨a, vs, h1, h2, h3⟩ := h
    exact ⟨a, vs, h1, DicAt.mono e h2, RepL.mono e h3⟩
  | .exc c, _, h => by
    unfold Rep at h ⊢
    obtain ⟨a, C, h1, h2, h3⟩ := h
    exact ⟨a, C, h1, h2, Same.rd e h3⟩
  | .fn x, _, h => h
  | .ol _, _, h => h.elim
  | .ol2 _, _, h => h.elim
  | .od _ _, _, h => h.elim
  | .oi _ _ _, _, h => h.elim
  | .odT _ _, _, h => h.elim
  | .odN _ _, _, h => h.elim
  | .kt _, _, h => h.elim
  | .row ds, _, h => by
    unfold Rep at h ⊢
    obtain ⟨a, o, vs, h1, h2, h3, h4, h5⟩ := h
    exact ⟨a, o, vs, h1, h2, h3, e _ _ h4, RepL.mono e h5⟩
  | .ob _, _, h => h
  | .inst _ _ _, _, h => by
    unfold Rep at h ⊢
    obtain ⟨a, dx, C, vs, h1, h2, h3, h4, h5⟩ := h
    exact ⟨a, dx, C, vs, h1, h2, h3, e _ _ h4, RepL.mono e h5⟩
  | .tab _, _, h => h.elim
theorem RepL.mono {B : Bd} {G G' : Hp} (e : Same G G') : ∀ {ds : List D} {vs : List V}, RepL B G ds vs → RepL B G' ds vs
  | [], _, h => h
  | d :: ds, _, h => by
    unfold RepL at h ⊢
    obtain ⟨v, r, h1, h2, h3⟩ := h
    exact ⟨v, r, h1, Rep.mono e h2, RepL.mono e h3⟩
end
end FF
set_option maxHeartbeats 4000000
/-! slots and what they hold -/
namespace FF
open PySem PySem.Spec PyProof.Rows L2
section
variable {B : Bd} {G G' H H' : Hp}
theorem Rows.keep (e : Same G G') : ∀ {xss : List (List D)} {ps : List Addr}, (∀ a ∈ ps, ∀ o, H a = some o → H' a = some o) → Rows B G H xss ps → Rows B G' H' xss ps
  | [], _, _, h => h
  | xs :: xss, _, k, h => by
    obtain ⟨p, r, vs, rfl, h1, h2, h3⟩ := h
    exact ⟨p, r, vs, rfl, k p (by simp) _ h1, h2.mono e, Rows.keep e (fun a ha => k a (by simp [ha])) h3⟩
mutual
theorem OR.keep (e : Same G G') : ∀ {d : D} {v : V} {fp : List Addr}, (∀ a ∈ fp, ∀ o, H a = some o → H' a = some o) → OR B G H d v fp → OR B G' H' d v fp
  | .ol ds, v, fp, k, h => by
    unfold OR at h ⊢
    obtain ⟨p, vs, h1, h2, h3, h4⟩ := h
    subst h3
    exact ⟨p, vs, h1, k p (by simp) _ h2, rfl, h4.mono e⟩
  | .ol2 xss, v, fp, k, h => by
    unfold OR at h ⊢
    obtain ⟨p, ps, h1, h2, h3, h4⟩ := h
    subst h3
    exact ⟨p, ps, h1, k p (by simp) _ h2, rfl, Rows.keep e (fun a ha => k a (by simp [ha])) h4⟩
  | .od ks ds, v, fp, k, h => by
    unfold OR at h ⊢
    obtain ⟨p, vs, h1, h2, hm, h3, h4⟩ := h
    subst h3
    have kp := k p (by simp)
    have hp : ∃ o, H p = some o ∧ H' p = some o := by
      cases q : H p with
      | none => rw [q] at hm; exact hm.elim
      | some o => exact ⟨o, rfl, kp o q⟩
    obtain ⟨o, q1, q2⟩ := hp
    refine ⟨p, vs, h1, ?_, by rw [q2]; rw [q1] at hm; exact hm, rfl, h4.mono e⟩
    unfold DicK Rd at h2 ⊢
    rw [q2]
    rw [q1] at h2
    exact h2
  | .odT ks ds, v, fp, k, h => by
    unfold OR at h ⊢
    obtain ⟨p, vs, h1, h2, h3, h4, h5⟩ := h
    subst h4
    exact ⟨p, vs, h1, k p (by simp) _ h2, h3, rfl, h5.mono e⟩
  | .odN ks ds, v, fp, k, h => by
    unfold OR at h ⊢
    obtain ⟨p, xs, h1, h2, h3, h4, h5, h6⟩ := h
    subst h5
    exact ⟨p, xs, h1, k p (by simp) _ h2, h3, fun x hx => ⟨dp_same e (h4 x hx).1, (h4 x hx).2⟩, rfl, h6.mono e⟩
  | .kt ks, v, fp, k, h => by
    unfold OR at h ⊢
    obtain ⟨h1, b, h2, h3⟩ := h
    exact ⟨h1, b, h2, e _ _ h3⟩
  | .oi c ks ds, v, fp, k, h => by
    unfold OR at h ⊢
    obtain ⟨p, dx, C, vs, fq, h1, h2, h3, h4, h5, h6, h7⟩ := h
    subst h6
    exact ⟨p, dx, C, vs, fq, h1, h2, h3, k p (by simp) _ h4, k dx (by simp) _ h5, rfl, ORL.keep e (fun a ha => k a (by simp [ha])) h7⟩
  | .non, v, fp, k, h => ⟨h.1, Rep.mono e h.2⟩
  | .bl _, v, fp, k, h => ⟨h.1, Rep.mono e h.2⟩
  | .int _, v, fp, k, h => ⟨h.1, Rep.mono e h.2⟩
  | .str _, v, fp, k, h => ⟨h.1, Rep.mono e h.2⟩
  | .tup _, v, fp, k, h => ⟨h.1, Rep.mono e h.2⟩
  | .lst _, v, fp, k, h => ⟨h.1, Rep.mono e h.2⟩
  | .src _, v, fp, k, h => ⟨h.1, Rep.mono e h.2⟩
  | .dic _ _, v, fp, k, h => ⟨h.1, Rep.mono e h.2⟩
  | .exc _, v, fp, k, h => ⟨h.1, Rep.mono e h.2⟩
  | .fn _, v, fp, k, h => ⟨h.1, Rep.mono e h.2⟩
  | .row _, v, fp, k, h => ⟨h.1, Rep.mono e h.2⟩
  | .ob _, v, fp, k, h => ⟨h.1, Rep.mono e h.2⟩
  | .inst _ _ _, v, fp, k, h => ⟨h.1, Rep.mono e h.2⟩
  | .tab q, v, fp, k, h => by
    unfold OR at h ⊢
    obtain ⟨p, ps, h1, h2, h3, h4, h5⟩ := h
    subst h3
    refine ⟨p, ps, h1, k p (by simp) _ h2, rfl, h4, fun pos cv hc => ?_⟩
    obtain ⟨c, e1, e2⟩ := h5 pos cv hc
    exact ⟨c, e1, e _ _ e2⟩
theorem ORL.keep (e : Same G G') : ∀ {ds : List D} {vs : List V} {fp : List Addr}, (∀ a ∈ fp, ∀ o, H a = some o → H' a = some o) → ORL B G H ds vs fp → ORL B G' H' ds vs fp
  | [], vs, fp, k, h => h
  | d :: ds, vs, fp, k, h => by
    unfold ORL at h ⊢
    obtain ⟨v, r, f1, f2, h1, h2, h3, h4⟩ := h
    subst h2
    exact ⟨v, r, f1, f2, h1, rfl, OR.keep e (fun a ha => k a (by simp [ha])) h3, ORL.keep e (fun a ha => k a (by simp [ha])) h4⟩
end
end

/-- what one slot holds -/
def SlotR (B : Bd) (G H : Hp) : Option D → Option V → List Addr → Prop
  | none, _, fp => fp = []
  | some d, v, fp => ∃ x, v = some x ∧ OR B G H d x fp
def SlotsR (B : Bd) (G H : Hp) : List (Option D) → L2.St → List Addr → Prop
  | [], σ, fp => σ = [] ∧ fp = []
  | d :: ds, σ, fp => ∃ v r f1 f2, σ = v :: r ∧ fp = f1 ++ f2 ∧ SlotR B G H d v f1 ∧ SlotsR B G H ds r f2
theorem SlotR.keep {B : Bd} {G G' H H' : Hp} (e : Same G G') {d : Option D} {v : Option V} {fp : List Addr} (k : ∀ a ∈ fp, ∀ o, H a = some o → H' a = some o) (h : SlotR B G H d v fp) : SlotR B G' H' d v fp := by
  cases d with
  | none => exact h
  | some d =>
    obtain ⟨x, h1, h2⟩ := h
    exact ⟨x, h1, OR.keep e k h2⟩
theorem SlotsR.keep {B : Bd} {G G' H H' : Hp} (e : Same G G') : ∀ {ds : List (Option D)} {σ : L2.St} {fp : List Addr}, (∀ a ∈ fp, ∀ o, H a = some o → H' a = some o) → SlotsR B G H ds σ fp → SlotsR B G' H' ds σ fp
  | [], _, _, _, h => h
  | d :: ds, _, _, k, h => by
    obtain ⟨v, r, f1, f2, h1, h2, h3, h4⟩ := h
    subst h2
    exact ⟨v, r, f1, f2, h1, rfl, SlotR.keep e (fun a ha => k a (by simp [ha])) h3, SlotsR.keep e (fun a ha => k a (by simp [ha])) h4⟩
theorem SlotsR.length {B : Bd} {G H : Hp} : ∀ {ds : List (Option D)} {σ : L2.St} {fp : List Addr}, SlotsR B G H ds σ fp → ds.length = σ.length
  | [], _, _, h => by rw [h.1]; rfl
  | d :: ds, _, _, h => by
    obtain ⟨v, r, f1, f2, h1, h2, h3, h4⟩ := h
    rw [h1, List.length_cons, List.length_cons, SlotsR.length h4]
/-- one slot apart -/
theorem SlotsR.focus {B : Bd} {G H : Hp} : ∀ {ds : List (Option D)} {σ : L2.St} {fp : List Addr} {i : Nat} {d : Option D}, SlotsR B G H ds σ fp → ds[i]? = some d →
    ∃ f1 f f2 v, fp = f1 ++ (f ++ f2) ∧ σ[i]? = some v ∧ SlotR B G H d v f ∧ ∀ G' H' d' v' f', Same G G' → (∀ a ∈ f1 ++ f2, ∀ o, H a = some o → H' a = some o) → SlotR B G' H' d' v' f' →
      SlotsR B G' H' (ds.set i d') (σ.set i v') (f1 ++ (f' ++ f2))
  | [], _, _, _, _, _, hi => by simp at hi
  | d0 :: ds, _, _, 0, d, h, hi => by
    obtain ⟨v, r, f1, f2, h1, h2, h3, h4⟩ := h
    subst h1 h2
    simp at hi
    subst hi
    exact ⟨[], f1, f2, v, rfl, rfl, h3, fun G' H' d' v' f' e k s => ⟨v', r, f', f2, rfl, rfl, s, SlotsR.keep e (by simpa using k) h4⟩⟩
  | d0 :: ds, _, _, i + 1, d, h, hi => by
    obtain ⟨v, r, f1, f2, h1, h2, h3, h4⟩ := h
    subst h1 h2
    obtain ⟨g1, g, g2, w, e1, e2, e3, e4⟩ := SlotsR.focus (i := i) (d := d) h4 (by simpa using hi)
    subst e1
    refine ⟨f1 ++ g1, g, g2, w, by simp, by simpa using e2, e3, fun G' H' d' v' f' e k s => ?_⟩
    refine ⟨v, r.set i v', f1, g1 ++ (f' ++ g2), by simp, by simp, SlotR.keep e (fun a ha => k a (by simp [ha])) h3, e4 G' H' d' v' f' e (fun a ha => k a ?_) s⟩
    rcases List.mem_append.mp ha with z | z <;> simp [z]

/-! ### the state -/
abbrev Sd := List (Option D)
/-- Oc: addresses that are another's; Om: mine, which may change; all else stands -/
def SR (B : Bd) (Oc Om : List Addr) (σd : Sd) (σ : L2.St) (H : Hp) : Prop :=
  (∀ a ∈ Oc ++ Om, H a ≠ none) ∧ ∃ fp, SlotsR B (minus H (Oc ++ Om)) H σd σ fp ∧ fp.Nodup ∧ ∀ a ∈ fp, a ∈ Om ∧ a ∉ Oc
/-- what stands behind a statement -/
structure Ext (Om : List Addr) (H : Hp) (Om' : List Addr) (H' : Hp) : Prop where
  keep : ∀ b o, b ∉ Om → H b = some o → H' b = some o
  new : ∀ a ∈ Om', a ∈ Om ∨ H a = none
theorem Ext.refl {Om : List Addr} {H : Hp} : Ext Om H Om H := ⟨fun _ _ _ h => h, fun _ h => .inl h⟩
theorem Ext.of_same {Om : List Addr} {H H' : Hp} (e : Same H H') : Ext Om H Om H' := ⟨fun _ _ _ h => e _ _ h, fun _ h => .inl h⟩
theorem Ext.trans {Om Om1 Om2 : List Addr} {H H1 H2 : Hp} (x : Ext Om H Om1 H1) (y : Ext Om1 H1 Om2 H2) : Ext Om H Om2 H2 := by
  refine ⟨fun b o hb e => y.keep b o (fun z => ?_) (x.keep b o hb e), fun a ha => ?_⟩
  · rcases x.new b z with q | q
    · exact hb q
    · rw [e] at q; cases q
  · rcases y.new a ha with q | q
    · exact x.new a q
    · by_cases hm : a ∈ Om
      · exact .inl hm
      · refine .inr ?_
        cases e : H a with
        | none => rfl
        | some o => rw [x.keep a o hm e] at q; cases q
theorem Ext.frz {Oc Om Om' : List Addr} {H H' : Hp} (x : Ext Om H Om' H') : Same (minus H (Oc ++ Om)) (minus H' (Oc ++ Om')) := fun a o h => by
  obtain ⟨h1, h2⟩ := minus_some.mp h
  rw [List.mem_append, not_or] at h1
  refine minus_some.mpr ⟨?_, x.keep a o h1.2 h2⟩
  rw [List.mem_append, not_or]
  refine ⟨h1.1, fun z => ?_⟩
  rcases x.new a z with q | q
  · exact h1.2 q
  · rw [h2] at q; cases q
theorem same_minus {H H' : Hp} {O : List Addr} (e : Same H H') : Same (minus H O) (minus H' O) := fun a o h => by
  obtain ⟨h1, h2⟩ := minus_some.mp h
  exact minus_some.mpr ⟨h1, e _ _ h2⟩
theorem Same.ne {H H' : Hp} (e : Same H H') {a : Addr} (h : H a ≠ none) : H' a ≠ none := by
  cases q : H a with
  | none => exact absurd q h
  | some o => rw [e a o q]; exact fun z => nomatch z

section
variable {B : Bd} {Oc Om : List Addr} {σd : Sd} {σ : L2.St} {H H' : Hp}
abbrev fz (H : Hp) (Oc Om : List Addr) : Hp := minus H (Oc ++ Om)
theorem SR.same (s : SR B Oc Om σd σ H) (e : Same H H') : SR B Oc Om σd σ H' := by
  obtain ⟨h1, fp, h2, h3, h4⟩ := s
  exact ⟨fun a ha => Same.ne e (h1 a ha), fp, SlotsR.keep (same_minus e) (fun a _ o q => e a o q) h2, h3, h4⟩
theorem SR.length (s : SR B Oc Om σd σ H) : σd.length = σ.length := by
  obtain ⟨_, fp, h2, _⟩ := s
  exact h2.length
theorem SR.get {i : Nat} {d : D} (s : SR B Oc Om σd σ H) (hi : σd[i]? = some (some d)) (hd : d.isOwn = false) : ∃ v, σ[i]? = some (some v) ∧ Rep B (fz H Oc Om) d v := by
  obtain ⟨_, fp, h2, _⟩ := s
  obtain ⟨f1, f, f2, v, _, e2, ⟨x, rfl, e3⟩, _⟩ := h2.focus hi
  exact ⟨x, e2, ((OR_frz hd).mp e3).2⟩
/-- a slot gets what stands still -/
theorem SR.setF {i : Nat} {d : D} {v : V} (s : SR B Oc Om σd σ H) (hi : i < σd.length) (r : Rep B (fz H Oc Om) d v) (hd : d.isOwn = false) : SR B Oc Om (σd.set i (some d)) (σ.set i (some v)) H := by
  obtain ⟨h1, fp, h2, h3, h4⟩ := s
  obtain ⟨f1, f, f2, w, e1, _, _, e4⟩ := h2.focus (i := i) (d := σd[i]) (by simp [hi])
  subst e1
  refine ⟨h1, f1 ++ ([] ++ f2), e4 _ H (some d) (some v) [] (Same.refl _) (fun _ _ _ q => q) ⟨v, rfl, (OR_frz hd).mpr ⟨rfl, r⟩⟩, ?_, fun a ha => h4 a ?_⟩
  · refine List.Nodup.sublist ?_ h3
    exact List.Sublist.append (List.Sublist.refl _) (by simp)
  · rw [List.nil_append] at ha
    rcases List.mem_append.mp ha with z | z <;> simp [z]
theorem Rep.notOwn {B : Bd} {G : Hp} {d : D} {v : V} (r : Rep B G d v) : d.isOwn = false := by
  cases d <;> first | rfl | exact r.elim
theorem SR.setF' {i : Nat} {d : D} {v : V} (s : SR B Oc Om σd σ H) (hi : i < σd.length) (r : Rep B (fz H Oc Om) d v) : SR B Oc Om (σd.set i (some d)) (σ.set i (some v)) H := s.setF hi r r.notOwn
/-- a slot is forgotten (whatever stands there) -/
theorem SR.drop {i : Nat} {x : Option V} (s : SR B Oc Om σd σ H) : SR B Oc Om (σd.set i none) (σ.set i x) H := by
  by_cases hi : i < σd.length
  · obtain ⟨h1, fp, h2, h3, h4⟩ := s
    obtain ⟨f1, f, f2, w, e1, _, _, e4⟩ := h2.focus (i := i) (d := σd[i]) (by simp [hi])
    subst e1
    refine ⟨h1, f1 ++ ([] ++ f2), e4 _ H none x [] (Same.refl _) (fun _ _ _ q => q) rfl, ?_, fun a ha => h4 a ?_⟩
    · refine List.Nodup.sublist ?_ h3
      exact List.Sublist.append (List.Sublist.refl _) (by simp)
    · rw [List.nil_append] at ha
      rcases List.mem_append.mp ha with z | z <;> simp [z]
  · have l := s.length
    rw [List.set_eq_of_length_le (by omega), List.set_eq_of_length_le (by omega)]
    exact s
theorem set_self_opt {α : Type} {l : List α} {i : Nat} {x : α} (h : l[i]? = some x) : l.set i x = l := by
  apply List.ext_getElem?
  intro j
  by_cases hj : i = j
  · subst hj
    rw [List.getElem?_set_self' ]
    rw [h] <;> rfl
  · rw [List.getElem?_set_ne hj]
theorem SR.forget {i : Nat} (s : SR B Oc Om σd σ H) : SR B Oc Om (σd.set i none) σ H := by
  have l := s.length
  by_cases hi : i < σd.length
  · have q := s.drop (i := i) (x := σ[i]'(by omega))
    have z : List.set σ i (σ[i]'(by omega)) = σ := set_self_opt (List.getElem?_eq_getElem (by omega))
    rw [z] at q
    exact q
  · have q := s.drop (i := i) (x := none)
    rwa [List.set_eq_of_length_le (l := σ) (by omega)] at q
def clr : List Nat → Sd → Sd
  | [], σ => σ
  | i :: is, σ => clr is (σ.set i none)
theorem SR.clr : ∀ {is : List Nat} {σd : Sd}, SR B Oc Om σd σ H → SR B Oc Om (clr is σd) σ H
  | [], _, s => s
  | i :: is, _, s => SR.clr (is := is) (s.forget (i := i))
end
end FF
set_option maxHeartbeats 4000000
/-! expressions by denotations -/
namespace FF
open PySem PySem.Spec PyProof.Rows L2
abbrev DE := Sd → R D
abbrev bdOf (X : Cx) : Bd := ⟨X.K, X.mg, X.prog, X.w⟩
/-- what is wanted of an exception of the own class c that flies from here -/
def exE (B : Bd) (W : WX) (σ : L2.St) (H : Hp) (c : Str) : Prop := ∀ C H', B.mg c = some (.ref C) → Same H H' → W (.ref C) none σ H'
theorem exE.mono {B : Bd} {W : WX} {σ : L2.St} {H H1 : Hp} {c : Str} (e : Same H H1) (h : exE B W σ H c) : exE B W σ H1 c := fun C H' hc s => h C H' hc (e.trans s)
def tD (B : Bd) (W : WX) (f : DE) : TE := fun σ H Q => ∃ Oc Om σd, SR B Oc Om σd σ H ∧ (f σd).post (fun d => ∀ v H', Same H H' → Rep B (fz H' Oc Om) d v → Q v H') (exE B W σ H)
def tDT (B : Bd) (W : WX) (f : Sd → R Bool) : TT := fun σ H Q => ∃ Oc Om σd, SR B Oc Om σd σ H ∧ (f σd).post (fun b => ∀ H', Same H H' → Q b H') (exE B W σ H)
def tDA (B : Bd) (W : WX) (f : Sd → R (List D)) : TA := fun σ H Q => ∃ Oc Om σd, SR B Oc Om σd σ H ∧ (f σd).post (fun ds => ∀ vs H', Same H H' → RepL B (fz H' Oc Om) ds vs → Q vs H') (exE B W σ H)
abbrev ED (X : Cx) (W : WX) (e : Expr) (f : DE) : Prop := PE X e (tD (bdOf X) W f)
abbrev TD (X : Cx) (W : WX) (e : Expr) (f : Sd → R Bool) : Prop := PT X e (tDT (bdOf X) W f)
abbrev AD (X : Cx) (W : WX) (es : List Expr) (f : Sd → R (List D)) : Prop := PA X es (tDA (bdOf X) W f)
section
variable {X : Cx}
theorem pe_imp {e : Expr} {t t' : TE} (h : PE X e t) (i : ∀ σ H Q, t' σ H Q → t σ H Q) : PE X e t' := ⟨fun pins s σ H Q I q => h.run pins s σ H Q I (i σ H Q q)⟩
theorem pt_imp {e : Expr} {t t' : TT} (h : PT X e t) (i : ∀ σ H Q, t' σ H Q → t σ H Q) : PT X e t' := ⟨fun pins s σ H Q I q => h.run pins s σ H Q I (i σ H Q q)⟩
theorem pw_imp {e : Expr} {t t' : TT} (h : PW X e t) (i : ∀ σ H Q, t' σ H Q → t σ H Q) : PW X e t' := ⟨fun wh pins s σ H Q I q => h.run wh pins s σ H Q I (i σ H Q q)⟩
theorem pa_imp {es : List Expr} {t t' : TA} (h : PA X es t) (i : ∀ σ H Q, t' σ H Q → t σ H Q) : PA X es t' := ⟨fun pos pins s σ H Q I q => h.run pos pins s σ H Q I (i σ H Q q)⟩
end
section
variable {B : Bd} {W : WX} {Oc Om : List Addr} {σd : Sd} {σ : L2.St} {H H' : Hp}
/-- the first of two steps -/
theorem tD_seq {β : Type} {f : DE} {k : D → R β} {P : β → Prop} {Q1 : VK} (s : SR B Oc Om σd σ H) (h : (f σd >>= k).post P (exE B W σ H))
    (hk : ∀ d v H1, Same H H1 → Rep B (fz H1 Oc Om) d v → SR B Oc Om σd σ H1 → (k d).post P (exE B W σ H1) → Q1 v H1) : tD B W f σ H Q1 := by
  refine ⟨Oc, Om, σd, s, R.post_imp (R.post_bind h) (fun d _ p v H1 e r => ?_) (fun c _ q => q)⟩
  exact hk d v H1 e r (s.same e) (R.post_imp p (fun _ _ q => q) fun c _ q => q.mono e)
theorem tDT_seq {β : Type} {f : Sd → R Bool} {k : Bool → R β} {P : β → Prop} {Q1 : Bool → Hp → Prop} (s : SR B Oc Om σd σ H) (h : (f σd >>= k).post P (exE B W σ H))
    (hk : ∀ b H1, Same H H1 → SR B Oc Om σd σ H1 → (k b).post P (exE B W σ H1) → Q1 b H1) : tDT B W f σ H Q1 := by
  refine ⟨Oc, Om, σd, s, R.post_imp (R.post_bind h) (fun d _ p H1 e => ?_) (fun c _ q => q)⟩
  exact hk d H1 e (s.same e) (R.post_imp p (fun _ _ q => q) fun c _ q => q.mono e)
theorem tDA_seq {β : Type} {f : Sd → R (List D)} {k : List D → R β} {P : β → Prop} {Q1 : List V → Hp → Prop} (s : SR B Oc Om σd σ H) (h : (f σd >>= k).post P (exE B W σ H))
    (hk : ∀ ds vs H1, Same H H1 → RepL B (fz H1 Oc Om) ds vs → SR B Oc Om σd σ H1 → (k ds).post P (exE B W σ H1) → Q1 vs H1) : tDA B W f σ H Q1 := by
  refine ⟨Oc, Om, σd, s, R.post_imp (R.post_bind h) (fun d _ p v H1 e r => ?_) (fun c _ q => q)⟩
  exact hk d v H1 e r (s.same e) (R.post_imp p (fun _ _ q => q) fun c _ q => q.mono e)
/-- the last step's wish, behind more heap -/
theorem post_after {r : R D} {Q : VK} (e : Same H H') (h : r.post (fun d => ∀ v H1, Same H H1 → Rep B (fz H1 Oc Om) d v → Q v H1) (exE B W σ H)) :
    r.post (fun d => ∀ v H1, Same H' H1 → Rep B (fz H1 Oc Om) d v → Q v H1) (exE B W σ H') :=
  R.post_imp h (fun _ _ p v H1 e1 r => p v H1 (e.trans e1) r) fun _ _ q => q.mono e
theorem post_afterT {r : R Bool} {Q : Bool → Hp → Prop} (e : Same H H') (h : r.post (fun b => ∀ H1, Same H H1 → Q b H1) (exE B W σ H)) :
    r.post (fun b => ∀ H1, Same H' H1 → Q b H1) (exE B W σ H') :=
  R.post_imp h (fun _ _ p H1 e1 => p H1 (e.trans e1)) fun _ _ q => q.mono e
theorem post_afterA {r : R (List D)} {Q : List V → Hp → Prop} (e : Same H H') (h : r.post (fun d => ∀ v H1, Same H H1 → RepL B (fz H1 Oc Om) d v → Q v H1) (exE B W σ H)) :
    r.post (fun d => ∀ v H1, Same H' H1 → RepL B (fz H1 Oc Om) d v → Q v H1) (exE B W σ H') :=
  R.post_imp h (fun _ _ p v H1 e1 r => p v H1 (e.trans e1) r) fun _ _ q => q.mono e
end
/-! ### new objects -/
theorem fz_new {H : Hp} {O : List Addr} {p : Addr} {o : HO} (hO : ∀ a ∈ O, H a ≠ none) (hp : H p = none) : minus (upd H p o) O p = some o := minus_some.mpr ⟨fun z => hO p z hp, upd_same⟩
theorem same_upd {H : Hp} {p : Addr} {o : HO} (hp : H p = none) : Same H (upd H p o) := fun b u q => by rw [upd_ne (ne_of_none q hp)]; exact q
/-! ### names, constants -/
def eV (i : Nat) : DE := fun σ => match σ[i]? with
  | some (some d) => if d.isOwn then .stuck else .ok d
  | _ => .stuck
def eK (d : D) : DE := fun _ => .ok d
def eVr (i : Nat) (σ : Sd) : R D := match σ[i]? with
  | some (some d) => .ok d
  | _ => .stuck
section
variable {X : Cx} {W : WX} {e a b : Expr} {fa fb : DE} {pos : Pos}
theorem ed_var (i : Nat) {x : Str} (h : PE X (.Name x pos) (tVar i)) : ED X W (.Name x pos) (eV i) := pe_imp h fun σ H Q ⟨Oc, Om, σd, s, h⟩ => by
  unfold eV at h
  split at h
  · rename_i d e
    split at h
    · exact h.elim
    · rename_i q
      obtain ⟨v, h1, h2⟩ := s.get e (by simpa using q)
      exact ⟨v, h1, h v H (Same.refl _) h2⟩
  · exact h.elim
theorem ed_c {d : D} {v : V} (h : PE X e (tC v)) (r : ∀ G, Rep (bdOf X) G d v) : ED X W e (eK d) := pe_imp h fun σ H Q ⟨Oc, Om, σd, s, h⟩ => h v H (Same.refl _) (r _)
theorem ed_int {i : Int} {j : Nat} : ED X W (.Constant (.int i) j pos) (eK (.int i)) := ed_c pe_int fun _ => rfl
theorem ed_bl {i : Bool} {j : Nat} : ED X W (.Constant (.bool i) j pos) (eK (.bl i)) := ed_c pe_bl fun _ => rfl
theorem ed_non {j : Nat} : ED X W (.Constant .none j pos) (eK .non) := ed_c pe_non fun _ => rfl
theorem ed_str {x : Str} {j : Nat} : ED X W (.Constant (.str x) j pos) (eK (.str x)) := ed_c pe_str fun _ => rfl
/-- a constant of the module's top -/
structure Glb (B : Bd) (x : Str) (d : D) : Prop where
  at_ : ∃ v u, B.mg x = some u ∧ RelV v u ∧ ∀ G, Rep B G d v
theorem ed_glb {x : Str} {d : D} (hg : Gl X x) (h : Glb (bdOf X) x d) (hd : (x == ("__debug__" : Str)) = false := by decide) : ED X W (.Name x pos) (eK d) := by
  obtain ⟨v, u, h1, h2, h3⟩ := h.at_
  exact ed_c (pe_glob hg h1 h2 hd) h3
/-! ### operators of two -/
/-- the rule r gives what g says -/
def Sem2 (B : Bd) (r : R2) (g : D → D → R D) : Prop := ∀ (Oc Om : List Addr) (H : Hp) (x y : D) (u v : V) (Q : VK), (∀ a ∈ Oc ++ Om, H a ≠ none) → Rep B (fz H Oc Om) x u → Rep B (fz H Oc Om) y v →
  (g x y).post (fun d => ∀ w H', Same H H' → Rep B (fz H' Oc Om) d w → Q w H') (fun _ => False) → r u v H Q
def NoExc {α : Type} (r : R α) : Prop := ∀ c, r ≠ .exc c
/-- an exception counts as none of ours -/
def R.quiet {α : Type} : R α → R α
  | .ok a => .ok a
  | _ => .stuck
@[simp] theorem R.quiet_ok {α : Type} (a : α) : (R.ok a).quiet = R.ok a := rfl
def eO2 (g : D → D → R D) (fa fb : DE) : DE := fun σ => fa σ >>= fun x => fb σ >>= fun y => (g x y).quiet
def eO1 (g : D → R D) (fa : DE) : DE := fun σ => fa σ >>= fun x => (g x).quiet
def eOL (g : List D → R D) (fs : Sd → R (List D)) : DE := fun σ => fs σ >>= fun x => (g x).quiet
theorem post_quiet {α : Type} {r : R α} {P : α → Prop} {E : Str → Prop} (h : r.quiet.post P E) : r.post P fun _ => False := by
  cases r with
  | ok a => exact h
  | exc c => exact h.elim
  | stuck => exact h.elim
theorem post_q {r : R D} {B : Bd} {Oc Om : List Addr} {H H1 : Hp} {Q : VK} {E : Str → Prop} (h : r.quiet.post (fun d => ∀ w H', Same H H' → Rep B (fz H' Oc Om) d w → Q w H') E) (e : Same H H1) :
    r.post (fun d => ∀ w H', Same H1 H' → Rep B (fz H' Oc Om) d w → Q w H') fun _ => False :=
  R.post_imp (post_quiet h) (fun _ _ p w H' e' r' => p w H' (e.trans e') r') fun _ _ z => z
theorem eO2_read {r : R2} {g : D → D → R D} (sem : Sem2 (bdOf X) r g) {σ : L2.St} {H : Hp} {Q : VK} (h : tD (bdOf X) W (eO2 g fa fb) σ H Q) : tOp r (tD (bdOf X) W fa) (tD (bdOf X) W fb) σ H Q := by
  obtain ⟨Oc, Om, σd, s, h⟩ := h
  refine tD_seq s h fun x u H1 e1 rx s1 h1 => ?_
  refine tD_seq s1 h1 fun y v H2 e2 ry s2 h2 => ?_
  exact sem Oc Om H2 x y u v Q s2.1 (rx.mono (same_minus e2)) ry (post_q h2 (e1.trans e2))
theorem ed_op {op : Operator} {r : R2} {g : D → D → R D} (ho : OpR X (binaryOp op) r) (sem : Sem2 (bdOf X) r g) (ha : ED X W a fa) (hb : ED X W b fb) : ED X W (.BinOp a op b pos) (eO2 g fa fb) :=
  pe_imp (pe_op ho ha hb) fun _ _ _ h => eO2_read sem h
theorem ed_cmp {op : CmpOp} {r : R2} {g : D → D → R D} (ho : OpR X (compareOp op) r) (sem : Sem2 (bdOf X) r g) (ha : ED X W a fa) (hb : ED X W b fb) (hm : behindInMarks op b = false) : ED X W (.Compare a [op] [b] pos) (eO2 g fa fb) :=
  pe_imp (pe_cmpR ho ha hb hm) fun _ _ _ h => eO2_read sem h
/-- the answer as a truth value -/
def asB : D → R Bool
  | .bl b => .ok b
  | _ => .stuck
def tB1 (f : DE) : Sd → R Bool := fun σ => f σ >>= asB
theorem asB_read {f : DE} {t : TE} (i : ∀ σ H Q, tD (bdOf X) W f σ H Q → t σ H Q) {σ : L2.St} {H : Hp} {Q : Bool → Hp → Prop} (h : tDT (bdOf X) W (tB1 f) σ H Q) : t σ H fun x H' => ∃ k, x = .bl k ∧ Q k H' := by
  obtain ⟨Oc, Om, σd, s, h⟩ := h
  refine i σ H _ (tD_seq s h fun d v H1 e1 r s1 h1 => ?_)
  cases d <;> first | exact h1.elim | skip
  exact ⟨_, r, h1 H1 e1⟩
theorem td_cmp {op : CmpOp} {r : R2} {g : D → D → R D} (ho : OpR X (compareOp op) r) (sem : Sem2 (bdOf X) r g) (ha : ED X W a fa) (hb : ED X W b fb) (hm : behindInMarks op b = false) : TD X W (.Compare a [op] [b] pos) (tB1 (eO2 g fa fb)) :=
  pt_imp (pt_cmpR ho ha hb hm) fun _ _ _ h => asB_read (fun _ _ _ h => eO2_read sem h) h
/-- a chain of two -/
def eChain (g g' : D → D → R D) (fa fb fc : DE) : DE := fun σ => fa σ >>= fun x => fb σ >>= fun y => (g x y).quiet >>= fun b => match b with
  | .bl true => fc σ >>= fun z => (g' y z).quiet
  | .bl false => .ok (.bl false)
  | _ => .stuck
theorem chain_read {c : Expr} {fc : DE} {r r' : R2} {g g' : D → D → R D} (sem : Sem2 (bdOf X) r g) (sem' : Sem2 (bdOf X) r' g') {σ : L2.St} {H : Hp} {Q : VK} (h : tD (bdOf X) W (eChain g g' fa fb fc) σ H Q) :
    tChain r r' (tD (bdOf X) W fa) (tD (bdOf X) W fb) (tD (bdOf X) W fc) σ H Q := by
  obtain ⟨Oc, Om, σd, s, h⟩ := h
  refine tD_seq s h fun x u H1 e1 rx s1 h1 => ?_
  refine tD_seq s1 h1 fun y v H2 e2 ry s2 h2 => ?_
  refine sem Oc Om H2 x y u v (fun z H3 => ∃ k, z = .bl k ∧ (if k = true then tD (bdOf X) W fc σ H3 fun w' H4 => r' v w' H4 Q else Q (.bl false) H3)) s2.1 (rx.mono (same_minus e2)) ry ?_
  have h3 := R.post_bind h2
  refine R.post_imp (post_quiet h3) (fun d hd p w H3 e3 r3 => ?_) (fun _ _ z => z)
  clear hd
  cases d <;> first | exact p.elim | skip
  rename_i k
  refine ⟨k, r3, ?_⟩
  cases k with
  | false => exact iteF (p _ H3 (e1.trans (e2.trans e3)) rfl)
  | true =>
    refine iteT (tD_seq (s2.same e3) (R.post_imp p (fun _ _ p => p) fun c _ z => z.mono e3) fun z zv H4 e4 rz s4 h4 => ?_)
    exact sem' Oc Om H4 y z v zv Q s4.1 (ry.mono (same_minus (e3.trans e4))) rz (post_q h4 (e1.trans (e2.trans (e3.trans e4))))
variable {c : Expr} {fc : DE}
theorem ed_chain {op op' : CmpOp} {r r' : R2} {g g' : D → D → R D} (ho : OpR X (compareOp op) r) (ho' : OpR X (compareOp op') r') (sem : Sem2 (bdOf X) r g) (sem' : Sem2 (bdOf X) r' g') (ha : ED X W a fa) (hb : ED X W b fb) (hc : ED X W c fc)
    (hm : lastMarks [op, op'] [b, c] = false) : ED X W (.Compare a [op, op'] [b, c] pos) (eChain g g' fa fb fc) := pe_imp (pe_chain ho ho' ha hb hc hm) fun _ _ _ h => chain_read sem sem' (c := c) h
theorem td_chain {op op' : CmpOp} {r r' : R2} {g g' : D → D → R D} (ho : OpR X (compareOp op) r) (ho' : OpR X (compareOp op') r') (sem : Sem2 (bdOf X) r g) (sem' : Sem2 (bdOf X) r' g') (ha : ED X W a fa) (hb : ED X W b fb) (hc : ED X W c fc)
    (hm : lastMarks [op, op'] [b, c] = false) : TD X W (.Compare a [op, op'] [b, c] pos) (tB1 (eChain g g' fa fb fc)) := pt_imp (pt_chain ho ho' ha hb hc hm) fun _ _ _ h => asB_read (fun _ _ _ h => chain_read sem sem' (c := c) h) h
/-! ### operators of one -/
def Sem1 (B : Bd) (r : V → Hp → VK → Prop) (g : D → R D) : Prop := ∀ (Oc Om : List Addr) (H : Hp) (x : D) (u : V) (Q : VK), (∀ a ∈ Oc ++ Om, H a ≠ none) → Rep B (fz H Oc Om) x u →
  (g x).post (fun d => ∀ w H', Same H H' → Rep B (fz H' Oc Om) d w → Q w H') (fun _ => False) → r u H Q
theorem ed_un {op : UnaryOp} {r : V → Hp → VK → Prop} {g : D → R D} (ho : UnR X (unaryOp op) r) (sem : Sem1 (bdOf X) r g) (ha : ED X W a fa) : ED X W (.UnaryOp op a pos) (eO1 g fa) :=
  pe_imp (pe_un ho ha) fun σ H Q ⟨Oc, Om, σd, s, h⟩ => tD_seq s h fun x u H1 e1 rx s1 h1 => sem Oc Om H1 x u Q s1.1 rx (post_q h1 e1)
/-- not e, e a truth value -/
def notD : D → R D
  | .bl b => .ok (.bl (!b))
  | _ => .stuck
theorem ed_not (ha : ED X W a fa) : ED X W (.UnaryOp .Not a pos) (eO1 notD fa) :=
  pe_imp (pe_not ha) fun σ H Q ⟨Oc, Om, σd, s, h⟩ => tD_seq s h fun x u H1 e1 rx s1 h1 => by
    cases x <;> first | exact h1.elim | skip
    exact ⟨_, rx, h1 _ H1 e1 rfl⟩
/-! ### and, or, if -/
def eAnd (fa fb : DE) : DE := fun σ => fa σ >>= fun x => match x with
  | .bl true => fb σ
  | .bl false => .ok (.bl false)
  | _ => .stuck
def eOr (fa fb : DE) : DE := fun σ => fa σ >>= fun x => match x with
  | .bl true => .ok (.bl true)
  | .bl false => fb σ
  | _ => .stuck
variable {rest : List Expr}
theorem tD_go {f : DE} {B : Bd} {Oc Om : List Addr} {σd : Sd} {σ : L2.St} {H H1 : Hp} {Q : VK} (s : SR B Oc Om σd σ H1) (e : Same H H1) (h : (f σd).post (fun d => ∀ v H', Same H H' → Rep B (fz H' Oc Om) d v → Q v H') (exE B W σ H1)) : tD B W f σ H1 Q :=
  ⟨Oc, Om, σd, s, R.post_imp h (fun _ _ p v H' e' r => p v H' (e.trans e') r) fun _ _ q => q⟩
theorem ed_and (ha : ED X W a fa) (hb : ED X W (.BoolOp .And (b :: rest) pos) fb) : ED X W (.BoolOp .And (a :: b :: rest) pos) (eAnd fa fb) :=
  pe_imp (pe_and ha hb) fun σ H Q ⟨Oc, Om, σd, s, h⟩ => tD_seq s h fun x u H1 e1 rx s1 h1 => by
    cases x <;> first | exact h1.elim | skip
    rename_i k
    refine ⟨k, rx, ?_⟩
    cases k with
    | true => exact iteT (tD_go s1 e1 h1)
    | false => exact iteF (h1 _ H1 e1 rfl)
theorem ed_or (ha : ED X W a fa) (hb : ED X W (.BoolOp .Or (b :: rest) pos) fb) : ED X W (.BoolOp .Or (a :: b :: rest) pos) (eOr fa fb) :=
  pe_imp (pe_or ha hb) fun σ H Q ⟨Oc, Om, σd, s, h⟩ => tD_seq s h fun x u H1 e1 rx s1 h1 => by
    cases x <;> first | exact h1.elim | skip
    rename_i k
    refine ⟨k, rx, ?_⟩
    cases k with
    | true => exact iteT (h1 _ H1 e1 rfl)
    | false => exact iteF (tD_go s1 e1 h1)
theorem ed_one {op : BoolOp} (ha : ED X W a fa) : ED X W (.BoolOp op [a] pos) fa := pe_one ha
def tAndD (fa fb : Sd → R Bool) : Sd → R Bool := fun σ => fa σ >>= fun x => if x = true then fb σ else .ok false
def tOrD (fa fb : Sd → R Bool) : Sd → R Bool := fun σ => fa σ >>= fun x => if x = true then .ok true else fb σ
def tNotD (fa : Sd → R Bool) : Sd → R Bool := fun σ => fa σ >>= fun x => .ok (!x)
def eIf (t : Sd → R Bool) (fa fb : DE) : DE := fun σ => t σ >>= fun x => if x = true then fa σ else fb σ
theorem tDT_go {f : Sd → R Bool} {B : Bd} {Oc Om : List Addr} {σd : Sd} {σ : L2.St} {H H1 : Hp} {Q : Bool → Hp → Prop} (s : SR B Oc Om σd σ H1) (e : Same H H1) (h : (f σd).post (fun d => ∀ H', Same H H' → Q d H') (exE B W σ H1)) : tDT B W f σ H1 Q :=
  ⟨Oc, Om, σd, s, R.post_imp h (fun _ _ p H' e' => p H' (e.trans e')) fun _ _ q => q⟩
variable {ga gb gt : Sd → R Bool}
abbrev WD (X : Cx) (W : WX) (e : Expr) (f : Sd → R Bool) : Prop := PW X e (tDT (bdOf X) W f)
theorem wd_and1 (ha : TD X W a ga) : WD X W (.BoolOp .And [a] pos) ga := pw_and1 ha
theorem wd_or1 (ha : TD X W a ga) : WD X W (.BoolOp .Or [a] pos) ga := pw_or1 ha
theorem wd_and (ha : TD X W a ga) (hb : WD X W (.BoolOp .And (b :: rest) pos) gb) : WD X W (.BoolOp .And (a :: b :: rest) pos) (tAndD ga gb) :=
  pw_imp (pw_and ha hb) fun σ H Q ⟨Oc, Om, σd, s, h⟩ => tDT_seq s h fun x H1 e1 s1 h1 => by
    cases x with
    | true => exact iteT (tDT_go s1 e1 h1)
    | false => exact iteF (h1 H1 e1)
theorem wd_or (ha : TD X W a ga) (hb : WD X W (.BoolOp .Or (b :: rest) pos) gb) : WD X W (.BoolOp .Or (a :: b :: rest) pos) (tOrD ga gb) :=
  pw_imp (pw_or ha hb) fun σ H Q ⟨Oc, Om, σd, s, h⟩ => tDT_seq s h fun x H1 e1 s1 h1 => by
    cases x with
    | true => exact iteT (h1 H1 e1)
    | false => exact iteF (tDT_go s1 e1 h1)
theorem td_bool (h : WD X W e ga) : TD X W e ga := PW.pt h
theorem td_not (ha : TD X W a ga) : TD X W (.UnaryOp .Not a pos) (tNotD ga) :=
  pt_imp (pt_not ha) fun σ H Q ⟨Oc, Om, σd, s, h⟩ => tDT_seq s h fun x H1 e1 s1 h1 => h1 H1 e1
theorem ed_if {c : Expr} (hc : TD X W c gt) (ha : ED X W a fa) (hb : ED X W b fb) : ED X W (.IfExp c a b pos) (eIf gt fa fb) :=
  pe_imp (pe_ifExp hc ha hb) fun σ H Q ⟨Oc, Om, σd, s, h⟩ => tDT_seq s h fun x H1 e1 s1 h1 => by
    cases x with
    | true => exact iteT (tD_go s1 e1 h1)
    | false => exact iteF (tD_go s1 e1 h1)
/-- e as a test, a truth value -/
theorem td_val (h : ED X W e fa) (he : ∀ whole, isTrue e X.env whole = (do let v ← whole; standAt e.pos; holding [v] (truthy v)) := by intro _; rfl) : TD X W e (tB1 fa) :=
  pt_imp (pt_val h he) fun _ _ _ q => asB_read (fun _ _ _ z => z) q
/-! ### arguments, displays -/
def aNil : Sd → R (List D) := fun _ => .ok []
def aCons (f : DE) (g : Sd → R (List D)) : Sd → R (List D) := fun σ => f σ >>= fun d => g σ >>= fun ds => .ok (d :: ds)
theorem RepL.nil {B : Bd} {G : Hp} : RepL B G [] [] := rfl
theorem RepL.cons {B : Bd} {G : Hp} {d : D} {v : V} {ds : List D} {vs : List V} (h : Rep B G d v) (hs : RepL B G ds vs) : RepL B G (d :: ds) (v :: vs) := ⟨v, vs, rfl, h, hs⟩
variable {es : List Expr} {fs : Sd → R (List D)}
theorem ad_nil : AD X W [] aNil := pa_imp pa_nil fun σ H Q ⟨Oc, Om, σd, s, h⟩ => h [] H (Same.refl _) .nil
theorem ad_cons (ha : ED X W e fa) (hr : AD X W es fs) (hs : starEach (e :: es) X.env = (false, eval e X.env) :: starEach es X.env := by rfl) : AD X W (e :: es) (aCons fa fs) :=
  pa_imp (pa_cons ha hr hs) fun σ H Q ⟨Oc, Om, σd, s, h⟩ => tD_seq s h fun x u H1 e1 rx s1 h1 => tDA_seq s1 h1 fun ds vs H2 e2 rs s2 h2 => h2 _ H2 (e1.trans e2) (.cons (rx.mono (same_minus e2)) rs)
theorem RepL.length {B : Bd} {G : Hp} : ∀ {ds : List D} {vs : List V}, RepL B G ds vs → vs.length = ds.length
  | [], _, h => by rw [show _ = [] from h]; rfl
  | d :: ds, _, h => by
    obtain ⟨v, r, rfl, _, h2⟩ := h
    rw [List.length_cons, List.length_cons, RepL.length h2]
def mkTup (ds : List D) : R D := if ds.length ≤ sizeLine then .ok (.tup ds) else .stuck
def mkLst (ds : List D) : R D := if ds.length ≤ sizeLine then .ok (.lst ds) else .stuck
theorem rep_tupNew {B : Bd} {H : Hp} {Oc Om : List Addr} {p : Addr} {ds : List D} {vs : List V} (hO : ∀ a ∈ Oc ++ Om, H a ≠ none) (hp : H p = none) (r : RepL B (fz H Oc Om) ds vs) : Rep B (fz (upd H p (.tup vs)) Oc Om) (.tup ds) (.ref p) := by
  unfold Rep
  exact ⟨p, vs, rfl, .inl (fz_new hO hp), r.mono (same_minus (same_upd hp))⟩
theorem rep_lstNew {B : Bd} {H : Hp} {Oc Om : List Addr} {p : Addr} {ds : List D} {vs : List V} (hO : ∀ a ∈ Oc ++ Om, H a ≠ none) (hp : H p = none) (r : RepL B (fz H Oc Om) ds vs) : Rep B (fz (upd H p (.lst vs)) Oc Om) (.lst ds) (.ref p) := by
  unfold Rep
  exact ⟨p, vs, rfl, fz_new hO hp, r.mono (same_minus (same_upd hp))⟩
theorem ed_tup {x1 : Nat} (h : AD X W es fs) : ED X W (.Tuple es x1 pos) (eOL mkTup fs) :=
  pe_imp (pe_tup h) fun σ H Q ⟨Oc, Om, σd, s, h⟩ => tDA_seq s h fun ds vs H1 e1 rs s1 h1 => by
    unfold mkTup at h1
    split at h1
    · rename_i q
      refine ⟨by rw [rs.length]; exact q, fun p hp => h1 _ _ (e1.trans (same_upd hp)) (rep_tupNew s1.1 hp rs)⟩
    · exact h1.elim
theorem ed_lst (h : AD X W es fs) : ED X W (.List es pos) (eOL mkLst fs) :=
  pe_imp (pe_lst h) fun σ H Q ⟨Oc, Om, σd, s, h⟩ => tDA_seq s h fun ds vs H1 e1 rs s1 h1 => by
    unfold mkLst at h1
    split at h1
    · rename_i q
      refine ⟨by rw [rs.length]; exact q, fun p hp => h1 _ _ (e1.trans (same_upd hp)) (rep_lstNew s1.1 hp rs)⟩
    · exact h1.elim
end
end FF
set_option maxHeartbeats 4000000
/-! operations of data -/
namespace FF
open PySem PySem.Spec PyProof.Rows L2
/-! ### + - * / % -/
def lenOk (n : Nat) : Bool := decide (n ≤ sizeLine)
def addD : D → D → R D
  | .int i, .int j => .ok (.int (i + j))
  | .str x, .str y => if x.length + y.length ≤ sizeLine then .ok (.str (x ++ y)) else .stuck
  | .tup xs, .tup ys => if xs.length + ys.length ≤ sizeLine then .ok (.tup (xs ++ ys)) else .stuck
  | .lst xs, .lst ys => if xs.length + ys.length ≤ sizeLine then .ok (.lst (xs ++ ys)) else .stuck
  | _, _ => .stuck
theorem RepL.append {B : Bd} {G : Hp} : ∀ {xs ys : List D} {us vs : List V}, RepL B G xs us → RepL B G ys vs → RepL B G (xs ++ ys) (us ++ vs)
  | [], _, _, _, h, h' => by rw [show _ = [] from h]; exact h'
  | x :: xs, _, _, _, h, h' => by
    obtain ⟨v, r, rfl, h1, h2⟩ := h
    exact ⟨v, _, rfl, h1, RepL.append h2 h'⟩
theorem fz_sub {H : Hp} {O : List Addr} {a : Addr} {o : HO} (h : minus H O a = some o) : H a = some o := minus_sub _ _ h
variable {X : Cx}
def rAddD (K : PySem.W.Frag) : R2 := fun x y H Q => rI0 (fun i j => .int (i + j)) x y H Q ∨ (∃ i j, x = .str i ∧ y = .str j ∧ i.length + j.length ≤ sizeLine ∧ Q (.str (i ++ j)) H) ∨ rCatA K x y H Q ∨ rCat x y H Q
theorem op_addD : OpR X (binaryOp .Add) (rAddD X.K) := op_add.or (op_add_str.or (op_catA.or op_cat))
theorem sem_add : Sem2 (bdOf X) (rAddD X.K) addD := by
  intro Oc Om H x y u v Q hO rx ry h
  cases x <;> cases y <;> first | exact h.elim | skip
  case int.int => cases rx; cases ry; exact .inl ⟨_, _, rfl, rfl, h _ H (Same.refl _) rfl⟩
  case str.str =>
    simp only [addD] at h
    split at h
    · cases rx; cases ry
      exact .inr (.inl ⟨_, _, rfl, rfl, by assumption, h _ H (Same.refl _) rfl⟩)
    · exact h.elim
  case tup.tup xs ys =>
    simp only [addD] at h
    split at h
    · rename_i q
      obtain ⟨a, vs, rfl, h1, h2⟩ := (rep_sq rx)
      obtain ⟨b, ws, rfl, h3, h4⟩ := (rep_sq ry)
      refine .inr (.inr (.inl ⟨a, b, vs, ws, rfl, rfl, Same.seqT minus_sub h1, Same.seqT minus_sub h3, by rw [h2.length, h4.length]; exact q, fun e => ?_, fun _ e => ?_, fun _ _ p hp => ?_⟩))
      · refine h _ H (Same.refl _) ?_
        have e' : xs = [] := by
          have := h2.length
          rw [e] at this
          exact List.eq_nil_of_length_eq_zero this.symm
        rw [e']; exact ry
      · refine h _ H (Same.refl _) ?_
        have e' : ys = [] := by
          have := h4.length
          rw [e] at this
          exact List.eq_nil_of_length_eq_zero this.symm
        rw [e', List.append_nil]; exact rx
      · exact h _ _ (same_upd hp) (rep_tupNew hO hp (h2.append h4))
    · exact h.elim
  case lst.lst xs ys =>
    simp only [addD] at h
    split at h
    · rename_i q
      obtain ⟨a, vs, rfl, h1, h2⟩ := (show ∃ a vs, u = .ref a ∧ _ = some (HO.lst vs) ∧ RepL _ _ xs vs by unfold Rep at rx; exact rx)
      obtain ⟨b, ws, rfl, h3, h4⟩ := (show ∃ a vs, v = .ref a ∧ _ = some (HO.lst vs) ∧ RepL _ _ ys vs by unfold Rep at ry; exact ry)
      exact .inr (.inr (.inr ⟨a, b, vs, ws, rfl, rfl, fz_sub h1, fz_sub h3, by rw [h2.length, h4.length]; exact q, fun p hp => h _ _ (same_upd hp) (rep_lstNew hO hp (h2.append h4))⟩))
    · exact h.elim
def subD : D → D → R D
  | .int i, .int j => .ok (.int (i - j))
  | _, _ => .stuck
theorem sem_sub : Sem2 (bdOf X) (rI0 fun i j => .int (i - j)) subD := by
  intro Oc Om H x y u v Q hO rx ry h
  cases x <;> cases y <;> first | exact h.elim | skip
  cases rx; cases ry; exact ⟨_, _, rfl, rfl, h _ H (Same.refl _) rfl⟩
def small64B (i : Int) : Bool := decide (i.natAbs < 18446744073709551616)
def mulD : D → D → R D
  | .int i, .int j => if small64B i || small64B j then .ok (.int (i * j)) else .stuck
  | .tup xs, .int k => if xs ≠ [] ∧ 2 ≤ k ∧ k.natAbs ≤ 1000 ∧ xs.length ≤ 1000 then .ok (.tup (List.replicate k.toNat xs).flatten) else .stuck
  | .lst xs, .int k => if k.natAbs < 9223372036854775808 ∧ xs.length * k.toNat ≤ sizeLine then .ok (.lst (List.replicate k.toNat xs).flatten) else .stuck
  | _, _ => .stuck
theorem RepL.rep {B : Bd} {G : Hp} {xs : List D} {us : List V} (h : RepL B G xs us) : ∀ n : Nat, RepL B G (List.replicate n xs).flatten (List.replicate n us).flatten
  | 0 => rfl
  | n + 1 => by
    rw [List.replicate_succ, List.flatten_cons, List.replicate_succ, List.flatten_cons]
    exact h.append (RepL.rep h n)
def rMulD (K : PySem.W.Frag) : R2 := fun x y H Q => rI CMul (fun i j => .int (i * j)) x y H Q ∨ rRepT K x y H Q ∨ rRep x y H Q
theorem op_mulD : OpR X (binaryOp .Mult) (rMulD X.K) := op_mul.or (op_repT.or op_rep)
theorem sem_mul : Sem2 (bdOf X) (rMulD X.K) mulD := by
  intro Oc Om H x y u v Q hO rx ry h
  cases x <;> cases y <;> first | exact h.elim | skip
  case int.int i j =>
    simp only [mulD] at h
    split at h
    · rename_i q
      cases rx; cases ry
      refine .inl ⟨_, _, rfl, rfl, ?_, h _ H (Same.refl _) rfl⟩
      unfold small64B at q
      simp only [Bool.or_eq_true, decide_eq_true_eq] at q
      unfold CMul
      omega
    · exact h.elim
  case tup.int xs k =>
    simp only [mulD] at h
    split at h
    · rename_i q
      obtain ⟨q1, q2, q3, q4⟩ := q
      cases ry
      obtain ⟨a, vs, rfl, h1, h2⟩ := (rep_sq rx)
      refine .inr (.inl ⟨a, k, vs, rfl, rfl, Same.seqT minus_sub h1, fun e => q1 ?_, q2, by omega, by rw [h2.length]; exact q4, fun p hp => h _ _ (same_upd hp) (rep_tupNew hO hp (h2.rep _))⟩)
      have := h2.length
      rw [e] at this
      exact List.eq_nil_of_length_eq_zero this.symm
    · exact h.elim
  case lst.int xs k =>
    simp only [mulD] at h
    split at h
    · rename_i q
      obtain ⟨q1, q3⟩ := q
      cases ry
      obtain ⟨a, vs, rfl, h1, h2⟩ := (show ∃ a vs, u = .ref a ∧ _ = some (HO.lst vs) ∧ RepL _ _ xs vs by unfold Rep at rx; exact rx)
      exact .inr (.inr ⟨a, k, vs, rfl, rfl, fz_sub h1, by omega, by omega, by rw [h2.length]; exact q3, fun p hp => h _ _ (same_upd hp) (rep_lstNew hO hp (h2.rep _))⟩)
    · exact h.elim
def modD : D → D → R D
  | .int i, .int j => if 0 < j then .ok (.int (i % j)) else .stuck
  | _, _ => .stuck
theorem sem_mod : Sem2 (bdOf X) (rI (fun _ j => 0 < j) fun i j => .int (i % j)) modD := by
  intro Oc Om H x y u v Q hO rx ry h
  cases x <;> cases y <;> first | exact h.elim | skip
  simp only [modD] at h
  split at h
  · cases rx; cases ry; exact ⟨_, _, rfl, rfl, by assumption, h _ H (Same.refl _) rfl⟩
  · exact h.elim
def fdivD : D → D → R D
  | .int i, .int j => if 0 < j ∧ j.natAbs < 1073741824 then .ok (.int (i / j)) else .stuck
  | _, _ => .stuck
theorem sem_fdiv : Sem2 (bdOf X) (rI CDiv fun i j => .int (i / j)) fdivD := by
  intro Oc Om H x y u v Q hO rx ry h
  cases x <;> cases y <;> first | exact h.elim | skip
  simp only [fdivD] at h
  split at h
  · cases rx; cases ry; exact ⟨_, _, rfl, rfl, by unfold CDiv; omega, h _ H (Same.refl _) rfl⟩
  · exact h.elim
def powD : D → D → R D
  | .int i, .int j => if 0 ≤ j ∧ j.natAbs ≤ 1000000 ∧ i.natAbs < 2 ^ 64 then .ok (.int (i ^ j.toNat)) else .stuck
  | _, _ => .stuck
theorem sem_pow : Sem2 (bdOf X) (rI CPow fun i j => .int (i ^ j.toNat)) powD := by
  intro Oc Om H x y u v Q hO rx ry h
  cases x <;> cases y <;> first | exact h.elim | skip
  simp only [powD] at h
  split at h
  · cases rx; cases ry; exact ⟨_, _, rfl, rfl, (by rename_i q; obtain ⟨q1, q2, q3⟩ := q; exact ⟨q1, by omega, q3⟩), h _ H (Same.refl _) rfl⟩
  · exact h.elim
def negD : D → R D
  | .int i => .ok (.int (-i))
  | _ => .stuck
theorem sem_neg : Sem1 (bdOf X) (rU fun i => .int (-i)) negD := by
  intro Oc Om H x u Q hO rx h
  cases x <;> first | exact h.elim | skip
  cases rx; exact ⟨_, rfl, h _ H (Same.refl _) rfl⟩
/-! ### < <= > >= of whole numbers -/
def cmpD (p : Int → Int → Bool) : D → D → R D
  | .int i, .int j => .ok (.bl (p i j))
  | _, _ => .stuck
theorem sem_cmp {p : Int → Int → Bool} : Sem2 (bdOf X) (rI0 fun i j => .bl (p i j)) (cmpD p) := by
  intro Oc Om H x y u v Q hO rx ry h
  cases x <;> cases y <;> first | exact h.elim | skip
  cases rx; cases ry; exact ⟨_, _, rfl, rfl, h _ H (Same.refl _) rfl⟩
abbrev ltD := cmpD fun i j => decide (i < j)
abbrev leD := cmpD fun i j => decide (i ≤ j)
abbrev gtD := cmpD fun i j => decide (j < i)
abbrev geD := cmpD fun i j => decide (j ≤ i)
/-! ### == and != -/
mutual
def toPy : D → PyData
  | .non => .none
  | .bl b => .bool b
  | .int i => .int i
  | .str x => .str x
  | .tup xs => .tuple (toPyL xs)
  | .lst xs => .list (toPyL xs)
  | .src ns => .list (ns.map .int)
  | _ => .none
def toPyL : List D → List PyData
  | [] => []
  | d :: ds => toPy d :: toPyL ds
end
mutual
def isData : D → Bool
  | .non => true
  | .bl _ => true
  | .int _ => true
  | .str _ => true
  | .tup xs => isDataL xs
  | .lst xs => isDataL xs
  | .src _ => true
  | _ => false
def isDataL : List D → Bool
  | [] => true
  | d :: ds => isData d && isDataL ds
end
theorem dp_ints {K : PySem.W.Frag} {H : Hp} : ∀ ns : List Int, DpAll K H (ns.map V.int) (ns.map PyData.int)
  | [] => .nil
  | n :: ns => .cons (.int n) (dp_ints ns)
mutual
theorem Rep.dp {B : Bd} {G : Hp} : ∀ {d : D} {v : V}, Rep B G d v → isData d = true → Dp B.K G v (toPy d)
  | .non, _, h, _ => by cases h; exact .non
  | .bl b, _, h, _ => by cases h; exact .bl b
  | .int i, _, h, _ => by cases h; exact .int i
  | .str x, _, h, _ => by cases h; exact .str x
  | .tup xs, _, h, q => by
    unfold Rep at h
    obtain ⟨a, vs, rfl, h1, h2⟩ := h
    exact .tup h1.sq (RepL.dp h2 q)
  | .lst xs, _, h, q => by
    unfold Rep at h
    obtain ⟨a, vs, rfl, h1, h2⟩ := h
    exact .lst (SqL.of h1) (RepL.dp h2 q)
  | .src ns, _, h, _ => by
    unfold Rep at h
    obtain ⟨a, rfl, h1⟩ := h
    exact .lst h1 (dp_ints ns)
  | .dic _ _, _, _, q => nomatch q
  | .exc _, _, _, q => nomatch q
  | .fn _, _, _, q => nomatch q
  | .ol _, _, _, q => nomatch q
  | .ol2 _, _, _, q => nomatch q
  | .od _ _, _, _, q => nomatch q
  | .oi _ _ _, _, _, q => nomatch q
  | .odT _ _, _, _, q => nomatch q
  | .odN _ _, _, _, q => nomatch q
  | .kt _, _, _, q => nomatch q
  | .row _, _, _, q => nomatch q
  | .ob _, _, _, q => nomatch q
  | .inst _ _ _, _, _, q => nomatch q
  | .tab _, _, _, q => nomatch q
theorem RepL.dp {B : Bd} {G : Hp} : ∀ {ds : List D} {vs : List V}, RepL B G ds vs → isDataL ds = true → DpAll B.K G vs (toPyL ds)
  | [], _, h, _ => by rw [show _ = [] from h]; exact .nil
  | d :: ds, _, h, q => by
    obtain ⟨v, r, rfl, h1, h2⟩ := h
    have q' : isData d = true ∧ isDataL ds = true := by simpa [isDataL] using q
    exact .cons (Rep.dp h1 q'.1) (RepL.dp h2 q'.2)
end
mutual
def dpt : D → Nat
  | .tup xs => dptL xs + 1
  | .lst xs => dptL xs + 1
  | .src _ => 1
  | _ => 0
def dptL : List D → Nat
  | [] => 0
  | d :: ds => max (dpt d) (dptL ds)
end
theorem depth_ints : ∀ ns : List Int, PyData.depthAll (ns.map PyData.int) = 0
  | [] => rfl
  | n :: ns => by
    rw [List.map_cons, PyData.depthAll, depth_ints ns]
    simp [PyData.depth]
mutual
theorem toPy_depth : ∀ d : D, isData d = true → (toPy d).depth = dpt d
  | .non, _ => by simp [toPy, PyData.depth, dpt]
  | .bl _, _ => by simp [toPy, PyData.depth, dpt]
  | .int _, _ => by simp [toPy, PyData.depth, dpt]
  | .str _, _ => by simp [toPy, PyData.depth, dpt]
  | .tup xs, h => by
    rw [toPy, PyData.depth, dpt, toPyL_depth xs h]
  | .lst xs, h => by
    rw [toPy, PyData.depth, dpt, toPyL_depth xs h]
  | .src ns, _ => by
    rw [toPy, PyData.depth, dpt, depth_ints]
  | .dic _ _, h => nomatch h
  | .exc _, h => nomatch h
  | .fn _, h => nomatch h
  | .ol _, h => nomatch h
  | .ol2 _, h => nomatch h
  | .od _ _, h => nomatch h
  | .oi _ _ _, h => nomatch h
  | .odT _ _, h => nomatch h
  | .odN _ _, h => nomatch h
  | .kt _, h => nomatch h
  | .row _, h => nomatch h
  | .ob _, h => nomatch h
  | .inst _ _ _, h => nomatch h
  | .tab _, h => nomatch h
theorem toPyL_depth : ∀ ds : List D, isDataL ds = true → PyData.depthAll (toPyL ds) = dptL ds
  | [], _ => by simp [toPyL, PyData.depthAll, dptL]
  | d :: ds, h => by
    have q : isData d = true ∧ isDataL ds = true := by simpa [isDataL] using h
    rw [toPyL, PyData.depthAll, dptL, toPy_depth d q.1, toPyL_depth ds q.2]
end
theorem plain_ints : ∀ ns : List Int, PyData.plainAll (ns.map PyData.int) = true
  | [] => by simp [PyData.plainAll]
  | n :: ns => by
    rw [List.map_cons, PyData.plainAll, plain_ints ns]
    simp [PyData.plain]
mutual
theorem toPy_plain : ∀ d : D, isData d = true → (toPy d).plain = true
  | .non, _ => by simp [toPy, PyData.plain]
  | .bl _, _ => by simp [toPy, PyData.plain]
  | .int _, _ => by simp [toPy, PyData.plain]
  | .str _, _ => by simp [toPy, PyData.plain]
  | .tup xs, h => by
    rw [toPy, PyData.plain, toPyL_plain xs h]
  | .lst xs, h => by
    rw [toPy, PyData.plain, toPyL_plain xs h]
  | .src ns, _ => by
    rw [toPy, PyData.plain, plain_ints]
  | .dic _ _, h => nomatch h
  | .exc _, h => nomatch h
  | .fn _, h => nomatch h
  | .ol _, h => nomatch h
  | .ol2 _, h => nomatch h
  | .od _ _, h => nomatch h
  | .oi _ _ _, h => nomatch h
  | .odT _ _, h => nomatch h
  | .odN _ _, h => nomatch h
  | .kt _, h => nomatch h
  | .row _, h => nomatch h
  | .ob _, h => nomatch h
  | .inst _ _ _, h => nomatch h
  | .tab _, h => nomatch h
theorem toPyL_plain : ∀ ds : List D, isDataL ds = true → PyData.plainAll (toPyL ds) = true
  | [], _ => by simp [toPyL, PyData.plainAll]
  | d :: ds, h => by
    have q : isData d = true ∧ isDataL ds = true := by simpa [isDataL] using h
    rw [toPyL, PyData.plainAll, toPy_plain d q.1, toPyL_plain ds q.2]
    rfl
end
def pyEq (x y : D) : Bool := PyData.eqv (toPy x) (toPy y)
/-- they may be compared: data, one of them not too deep -/
def okC (x y : D) : Bool := isData x && isData y && decide (min (dpt x) (dpt y) ≤ 100)
def eqD (x y : D) : R D := if okC x y = true then .ok (.bl (pyEq x y)) else .stuck
def neD (x y : D) : R D := if okC x y = true then .ok (.bl (!pyEq x y)) else .stuck
/-- room of the interpreter's stack -/
abbrev Rm (X : Cx) : Prop := X.A.units + 200 < cLine
def rEqP (K : PySem.W.Frag) : R2 := fun x y H Q => ∃ d e, Dp K H x (toPy d) ∧ Dp K H y (toPy e) ∧ okC d e = true ∧ Q (.bl (pyEq d e)) H
def rNeP (K : PySem.W.Frag) : R2 := fun x y H Q => ∃ d e, Dp K H x (toPy d) ∧ Dp K H y (toPy e) ∧ okC d e = true ∧ Q (.bl (!pyEq d e)) H
theorem okC_parts {x y : D} (h : okC x y = true) : isData x = true ∧ isData y = true ∧ min (toPy x).depth (toPy y).depth ≤ 100 := by
  unfold okC at h
  simp only [Bool.and_eq_true, decide_eq_true_eq] at h
  obtain ⟨⟨h1, h2⟩, h3⟩ := h
  rw [toPy_depth x h1, toPy_depth y h2]
  exact ⟨h1, h2, h3⟩
theorem op_eqP (hu : Rm X) : OpR X (compareOp .Eq) (rEqP X.K) := by
  intro pins s σ H x y v u Q I rx ry h
  obtain ⟨d, e, hd, he, ok, q⟩ := h
  obtain ⟨o1, o2, o3⟩ := okC_parts ok
  obtain ⟨as, r1⟩ := Dp.reads I _ x v hd rx
  obtain ⟨bs, r2⟩ := Dp.reads I _ y u he ry
  have hu' : X.A.units + 200 < cLine := hu
  exact SeqAt.eq_plain r1 r2 (toPy_plain d o1) (toPy_plain e o2) (by omega) ⟨.bl _, H, I, rfl, q⟩
theorem op_neP (hu : Rm X) : OpR X (compareOp .NotEq) (rNeP X.K) := by
  intro pins s σ H x y v u Q I rx ry h
  obtain ⟨d, e, hd, he, ok, q⟩ := h
  obtain ⟨o1, o2, o3⟩ := okC_parts ok
  obtain ⟨as, r1⟩ := Dp.reads I _ x v hd rx
  obtain ⟨bs, r2⟩ := Dp.reads I _ y u he ry
  have hu' : X.A.units + 200 < cLine := hu
  exact SeqAt.ne_plain r1 r2 (toPy_plain d o1) (toPy_plain e o2) (by omega) ⟨.bl _, H, I, rfl, q⟩
theorem sem_eq : Sem2 (bdOf X) (rEqP X.K) eqD := by
  intro Oc Om H x y u v Q hO rx ry h
  unfold eqD at h
  split at h
  · rename_i q
    obtain ⟨o1, o2, o3⟩ := okC_parts q
    exact ⟨x, y, Rep.dp (rx.mono minus_sub) o1, Rep.dp (ry.mono minus_sub) o2, q, h _ H (Same.refl _) rfl⟩
  · exact h.elim
theorem sem_ne : Sem2 (bdOf X) (rNeP X.K) neD := by
  intro Oc Om H x y u v Q hO rx ry h
  unfold neD at h
  split at h
  · rename_i q
    obtain ⟨o1, o2, o3⟩ := okC_parts q
    exact ⟨x, y, Rep.dp (rx.mono minus_sub) o1, Rep.dp (ry.mono minus_sub) o2, q, h _ H (Same.refl _) rfl⟩
  · exact h.elim
/-! ### in, not in: over lists, tuples, texts -/
def okIn (x : D) (ys : List D) : Bool := isData x && isDataL ys && decide (min (dptL ys) (dpt x) ≤ 100)
def inL (x : D) (ys : List D) : Bool := ys.any fun y => pyEq y x
theorem any_toPy (x : D) : ∀ ys : List D, ((toPyL ys).any fun y => PyData.eqv y (toPy x)) = inL x ys
  | [] => rfl
  | y :: ys => by
    rw [toPyL, List.any_cons, any_toPy x ys]
    rfl
def strIn (x y : Str) : Bool := !(Builtin.Str.occurrences y x 0 y.length 1).isEmpty
def inD (neg : Bool) : D → D → R D
  | .str x, .str y => .ok (.bl (neg != strIn x y))
  | x, .lst ys => if okIn x ys = true then .ok (.bl (neg != inL x ys)) else .stuck
  | x, .tup ys => if okIn x ys = true then .ok (.bl (neg != inL x ys)) else .stuck
  | _, _ => .stuck
def rInP (K : PySem.W.Frag) (neg : Bool) : R2 := fun x y H Q => (∃ i j, x = .str i ∧ y = .str j ∧ Q (.bl (neg != strIn i j)) H) ∨
  ∃ d ds, Dp K H x (toPy d) ∧ (Dp K H y (.list (toPyL ds)) ∨ Dp K H y (.tuple (toPyL ds))) ∧ okIn d ds = true ∧ Q (.bl (neg != inL d ds)) H
theorem okIn_parts {x : D} {ys : List D} (h : okIn x ys = true) : isData x = true ∧ isDataL ys = true ∧ min (PyData.depthAll (toPyL ys)) (toPy x).depth ≤ 100 := by
  unfold okIn at h
  simp only [Bool.and_eq_true, decide_eq_true_eq] at h
  obtain ⟨⟨h1, h2⟩, h3⟩ := h
  rw [toPy_depth x h1, toPyL_depth ys h2]
  exact ⟨h1, h2, h3⟩
theorem bne_ff (b : Bool) : (false != b) = b := by cases b <;> rfl
theorem bne_tt (b : Bool) : (true != b) = !b := by cases b <;> rfl
theorem op_inP (hu : Rm X) : OpR X (compareOp .In) (rInP X.K false) := by
  intro pins s σ H x y v u Q I rx ry h
  have hu' : X.A.units + 200 < cLine := hu
  rcases h with ⟨i, j, rfl, rfl, q⟩ | ⟨d, ds, hd, hs, ok, q⟩
  · rw [bne_ff] at q
    exact op_in_str pins s σ H _ _ v u Q I rx ry ⟨i, j, rfl, rfl, q⟩
  · obtain ⟨o1, o2, o3⟩ := okIn_parts ok
    rw [bne_ff, ← any_toPy] at q
    obtain ⟨as, r1⟩ := Dp.reads I _ x v hd rx
    rcases hs with hs | hs
    · obtain ⟨bs, r2⟩ := Dp.reads I _ y u hs ry
      exact SeqAt.in_list_data r2 r1 (toPyL_plain ds o2) (toPy_plain d o1) (by omega) ⟨.bl _, H, I, rfl, q⟩
    · obtain ⟨bs, r2⟩ := Dp.reads I _ y u hs ry
      exact SeqAt.in_tuple_data r2 r1 (toPyL_plain ds o2) (toPy_plain d o1) (by omega) ⟨.bl _, H, I, rfl, q⟩
theorem op_notInP (hu : Rm X) : OpR X (compareOp .NotIn) (rInP X.K true) := by
  intro pins s σ H x y v u Q I rx ry h
  have hu' : X.A.units + 200 < cLine := hu
  rcases h with ⟨i, j, rfl, rfl, q⟩ | ⟨d, ds, hd, hs, ok, q⟩
  · rw [bne_tt] at q
    exact op_notIn_str pins s σ H _ _ v u Q I rx ry ⟨i, j, rfl, rfl, q⟩
  · obtain ⟨o1, o2, o3⟩ := okIn_parts ok
    rw [bne_tt, ← any_toPy] at q
    obtain ⟨as, r1⟩ := Dp.reads I _ x v hd rx
    rcases hs with hs | hs
    · obtain ⟨bs, r2⟩ := Dp.reads I _ y u hs ry
      exact SeqAt.notIn_list_data r2 r1 (toPyL_plain ds o2) (toPy_plain d o1) (by omega) ⟨.bl _, H, I, rfl, q⟩
    · obtain ⟨bs, r2⟩ := Dp.reads I _ y u hs ry
      exact SeqAt.notIn_tuple_data r2 r1 (toPyL_plain ds o2) (toPy_plain d o1) (by omega) ⟨.bl _, H, I, rfl, q⟩
theorem sem_in {neg : Bool} : Sem2 (bdOf X) (rInP X.K neg) (inD neg) := by
  intro Oc Om H x y u v Q hO rx ry h
  cases y with
  | str y =>
    cases x <;> first | exact h.elim | skip
    cases rx; cases ry
    exact .inl ⟨_, _, rfl, rfl, h _ H (Same.refl _) rfl⟩
  | lst ys =>
    have h' : (if okIn x ys = true then R.ok (D.bl (neg != inL x ys)) else .stuck).post (fun d => ∀ w H', Same H H' → Rep (bdOf X) (fz H' Oc Om) d w → Q w H') (fun _ => False) := by
      cases x <;> exact h
    split at h'
    · rename_i q
      obtain ⟨o1, o2, o3⟩ := okIn_parts q
      exact .inr ⟨x, ys, Rep.dp (rx.mono minus_sub) o1, .inl (Rep.dp (ry.mono minus_sub) o2), q, h' _ H (Same.refl _) rfl⟩
    · exact h'.elim
  | tup ys =>
    have h' : (if okIn x ys = true then R.ok (D.bl (neg != inL x ys)) else .stuck).post (fun d => ∀ w H', Same H H' → Rep (bdOf X) (fz H' Oc Om) d w → Q w H') (fun _ => False) := by
      cases x <;> exact h
    split at h'
    · rename_i q
      obtain ⟨o1, o2, o3⟩ := okIn_parts q
      exact .inr ⟨x, ys, Rep.dp (rx.mono minus_sub) o1, .inr (Rep.dp (ry.mono minus_sub) o2), q, h' _ H (Same.refl _) rfl⟩
    · exact h'.elim
  | _ => cases x <;> exact h.elim
/-! ### is, is not: None, True, False -/
def isNonD : D → Bool
  | .non => true
  | _ => false
theorem Rep.non_iff {B : Bd} {G : Hp} {d : D} {v : V} (h : Rep B G d v) : decide (v = .non) = isNonD d := by
  cases d <;> unfold Rep at h <;> first | exact h.elim | skip
  all_goals first
    | (subst h; rfl)
    | (obtain ⟨_, _, _, _, rfl, _⟩ := h; rfl)
    | (obtain ⟨_, _, rfl, _⟩ := h; rfl)
    | (obtain ⟨_, rfl, _⟩ := h; rfl)
    | (obtain ⟨_, _, _, rfl, _⟩ := h; rfl)
def isD : D → D → R D
  | d, .non => .ok (.bl (isNonD d))
  | .bl a, .bl b => .ok (.bl (decide (a = b)))
  | _, _ => .stuck
def isnotD : D → D → R D
  | d, .non => .ok (.bl (!isNonD d))
  | .bl a, .bl b => .ok (.bl (!decide (a = b)))
  | _, _ => .stuck
def rIsD : R2 := fun x y H Q => (y = .non ∧ Q (.bl (decide (x = .non))) H) ∨ rIsB x y H Q
def rIsnotD : R2 := fun x y H Q => (y = .non ∧ Q (.bl (!decide (x = .non))) H) ∨ rNotB x y H Q
theorem op_isD : OpR X (compareOp .Is) rIsD := op_isN.or op_isBl
theorem op_isnotD : OpR X (compareOp .IsNot) rIsnotD := op_notN.or op_notBl
theorem sem_is : Sem2 (bdOf X) rIsD isD := by
  intro Oc Om H x y u v Q hO rx ry h
  cases y with
  | non =>
    have e : v = .non := ry
    have h2 := h (.bl (isNonD x)) H (Same.refl _) rfl
    exact .inl ⟨e, by rw [rx.non_iff]; exact h2⟩
  | bl b =>
    cases x <;> first | exact h.elim | skip
    cases rx; cases ry
    exact .inr ⟨_, _, rfl, rfl, h _ H (Same.refl _) rfl⟩
  | _ => cases x <;> exact h.elim
theorem sem_isnot : Sem2 (bdOf X) rIsnotD isnotD := by
  intro Oc Om H x y u v Q hO rx ry h
  cases y with
  | non =>
    have e : v = .non := ry
    have h2 := h (.bl (!isNonD x)) H (Same.refl _) rfl
    exact .inl ⟨e, by rw [rx.non_iff]; exact h2⟩
  | bl b =>
    cases x <;> first | exact h.elim | skip
    cases rx; cases ry
    exact .inr ⟨_, _, rfl, rfl, h _ H (Same.refl _) rfl⟩
  | _ => cases x <;> exact h.elim
end FF
set_option maxHeartbeats 4000000
/-! subscripts, slices, built-in calls, methods -/
namespace FF
open PySem PySem.Spec PyProof.Rows L2
variable {X : Cx} {W : WX} {e a b : Expr} {fa fb : DE} {pos : Pos}
/-! ### x[i] -/
theorem RepL.at {B : Bd} {G : Hp} : ∀ {ds : List D} {vs : List V} {i : Nat} {d : D}, RepL B G ds vs → ds[i]? = some d → ∃ v, vs[i]? = some v ∧ Rep B G d v
  | [], _, _, _, _, h => by simp at h
  | d0 :: ds, _, 0, d, h, e => by
    obtain ⟨v, r, rfl, h1, h2⟩ := h
    simp at e
    subst e
    exact ⟨v, rfl, h1⟩
  | d0 :: ds, _, i + 1, d, h, e => by
    obtain ⟨v, r, rfl, h1, h2⟩ := h
    obtain ⟨w, e1, e2⟩ := RepL.at (i := i) (d := d) h2 (by simpa using e)
    exact ⟨w, by simpa using e1, e2⟩
theorem RepL.atI {B : Bd} {G : Hp} {ds : List D} {vs : List V} {i : Int} {d : D} (h : RepL B G ds vs) (e : atI ds i = some d) : ∃ v, L2.atI vs i = some v ∧ Rep B G d v := by
  unfold L2.atI at e ⊢
  rw [h.length]
  cases q : ixN ds.length i with
  | none => rw [q] at e; cases e
  | some j =>
    rw [q] at e
    exact h.at e
theorem atI_map {α β : Type} (f : α → β) (xs : List α) (i : Int) : atI (xs.map f) i = (atI xs i).map f := by
  unfold L2.atI
  rw [List.length_map]
  cases ixN xs.length i with
  | none => rfl
  | some j =>
    show (xs.map f)[j]? = (xs[j]?).map f
    rw [List.getElem?_map]
def ofO : Option D → R D
  | some d => .ok d
  | none => .stuck
def ixD : D → D → R D
  | .lst xs, .int i => ofO (atI xs i)
  | .tup xs, .int i => ofO (atI xs i)
  | .src ns, .int i => ofO ((atI ns i).map .int)
  | .str z, .int i => if z.length ≤ sizeLine then ofO ((atI z.cps.toList i).map fun c => .str ⟨#[c]⟩) else .stuck
  | _, _ => .stuck
theorem ofO_post {o : Option D} {P : D → Prop} {E : Str → Prop} (h : (ofO o).post P E) : ∃ d, o = some d ∧ P d := by
  cases o with
  | none => exact h.elim
  | some d => exact ⟨d, rfl, h⟩
theorem sem_ix : Sem2 (bdOf X) (rIx X.K) ixD := by
  intro Oc Om H x y u v Q hO rx ry h
  cases y with
  | int i =>
    cases ry
    cases x with
    | lst xs =>
      obtain ⟨d, e, p⟩ := ofO_post h
      obtain ⟨a, vs, rfl, h1, h2⟩ := (show ∃ a vs, u = .ref a ∧ _ = some (HO.lst vs) ∧ RepL _ _ xs vs by unfold Rep at rx; exact rx)
      obtain ⟨w, e1, r⟩ := h2.atI e
      exact .inl ⟨a, vs, i, w, rfl, rfl, SqL.of (fz_sub h1), e1, p _ H (Same.refl _) r⟩
    | tup xs =>
      obtain ⟨d, e, p⟩ := ofO_post h
      obtain ⟨a, vs, rfl, h1, h2⟩ := (rep_sq rx)
      obtain ⟨w, e1, r⟩ := h2.atI e
      exact .inr (.inl ⟨a, vs, i, w, rfl, rfl, Same.seqT minus_sub h1, e1, p _ H (Same.refl _) r⟩)
    | src ns =>
      obtain ⟨d, e, p⟩ := ofO_post h
      obtain ⟨a, rfl, h1⟩ := (show ∃ a, u = .ref a ∧ SqL X.K _ a (ns.map V.int) by unfold Rep at rx; exact rx)
      cases q : atI ns i with
      | none => rw [q] at e; cases e
      | some n =>
        rw [q] at e
        cases e
        exact .inl ⟨a, _, i, .int n, rfl, rfl, minus_sub.seq h1, by rw [atI_map, q] <;> rfl, p _ H (Same.refl _) rfl⟩
    | str z =>
      simp only [ixD] at h
      split at h
      · rename_i hz
        obtain ⟨d, e, p⟩ := ofO_post h
        cases rx
        cases q : atI z.cps.toList i with
        | none => rw [q] at e; cases e
        | some c =>
          rw [q] at e
          cases e
          exact .inr (.inr ⟨z, i, c, rfl, rfl, hz, q, p _ H (Same.refl _) rfl⟩)
      · exact h.elim
    | _ => exact h.elim
  | _ => cases x <;> exact h.elim
theorem ed_ix (ha : ED X W a fa) (hb : ED X W b fb) (hs : PlainIx b) : ED X W (.Subscript a b pos) (eO2 ixD fa fb) := pe_imp (pe_ix ix_seq ha hb hs) fun _ _ _ h => eO2_read sem_ix h
/-! ### x[i:j] -/
def pNone : Sd → R (Option Int) := fun _ => .ok none
def pSome (f : DE) : Sd → R (Option Int) := fun σ => f σ >>= fun d => match d with
  | .int i => .ok (some i)
  | _ => .stuck
def tDO (B : Bd) (W : WX) (f : Sd → R (Option Int)) : TO := fun σ H Q => ∃ Oc Om σd, SR B Oc Om σd σ H ∧ (f σd).post (fun o => ∀ H', Same H H' → Q o H') (exE B W σ H)
abbrev OD (X : Cx) (W : WX) (e : Option Expr) (f : Sd → R (Option Int)) : Prop := PO X e (tDO (bdOf X) W f)
theorem po_imp {e : Option Expr} {t t' : TO} (h : PO X e t) (i : ∀ σ H Q, t' σ H Q → t σ H Q) : PO X e t' := ⟨fun pins s σ H Q I q => h.run pins s σ H Q I (i σ H Q q)⟩
theorem od_none : OD X W none pNone := po_imp po_none fun σ H Q ⟨Oc, Om, σd, s, h⟩ => h H (Same.refl _)
theorem od_some (h : ED X W e fa) : OD X W (some e) (pSome fa) := po_imp (po_some h) fun σ H Q ⟨Oc, Om, σd, s, h⟩ => tD_seq s h fun d v H1 e1 r s1 h1 => by
  cases d <;> first | exact h1.elim | skip
  exact ⟨_, r, h1 H1 e1⟩
theorem tDO_seq {B : Bd} {Oc Om : List Addr} {σd : Sd} {σ : L2.St} {H : Hp} {β : Type} {f : Sd → R (Option Int)} {k : Option Int → R β} {P : β → Prop} {Q1 : Option Int → Hp → Prop} (s : SR B Oc Om σd σ H) (h : (f σd >>= k).post P (exE B W σ H))
    (hk : ∀ b H1, Same H H1 → SR B Oc Om σd σ H1 → (k b).post P (exE B W σ H1) → Q1 b H1) : tDO B W f σ H Q1 := by
  refine ⟨Oc, Om, σd, s, R.post_imp (R.post_bind h) (fun d _ p H1 e => ?_) (fun c _ q => q)⟩
  exact hk d H1 e (s.same e) (R.post_imp p (fun _ _ q => q) fun c _ q => q.mono e)
def cutD {α : Type} (xs : List α) (lo hi : Option Int) : List α := (xs.drop (HT.sIx xs.length 0 lo)).take (HT.sIx xs.length xs.length hi - HT.sIx xs.length 0 lo)
theorem RepL.drop {B : Bd} {G : Hp} : ∀ {ds : List D} {vs : List V} (n : Nat), RepL B G ds vs → RepL B G (ds.drop n) (vs.drop n)
  | _, _, 0, h => h
  | [], _, n + 1, h => by rw [show _ = [] from h]; rfl
  | d :: ds, _, n + 1, h => by
    obtain ⟨v, r, rfl, h1, h2⟩ := h
    exact RepL.drop n h2
theorem RepL.take {B : Bd} {G : Hp} : ∀ {ds : List D} {vs : List V} (n : Nat), RepL B G ds vs → RepL B G (ds.take n) (vs.take n)
  | _, _, 0, h => rfl
  | [], _, n + 1, h => by rw [show _ = [] from h]; rfl
  | d :: ds, _, n + 1, h => by
    obtain ⟨v, r, rfl, h1, h2⟩ := h
    exact ⟨v, _, rfl, h1, RepL.take n h2⟩
theorem RepL.cut {B : Bd} {G : Hp} {ds : List D} {vs : List V} (h : RepL B G ds vs) (lo hi : Option Int) : RepL B G (cutD ds lo hi) (cutV vs lo hi) := by
  unfold cutD cutV
  rw [h.length]
  exact (h.drop _).take _
def slD : D → Option Int → Option Int → R D
  | .lst xs, lo, hi => .ok (.lst (cutD xs lo hi))
  | .tup xs, lo, hi => .ok (.tup (cutD xs lo hi))
  | .str z, lo, hi => if z.length ≤ sizeLine then .ok (.str (cutS z lo hi)) else .stuck
  | _, _, _ => .stuck
def rSlD (K : PySem.W.Frag) : V → Option Int → Option Int → Hp → VK → Prop := fun x lo hi H Q => rSlL K x lo hi H Q ∨ rSlA K x lo hi H Q ∨ rSlS x lo hi H Q
theorem sl_D : SlR X (rSlD X.K) := sl_list.or (sl_tupA.or sl_str)
theorem cutD_whole {α : Type} {xs : List α} {lo hi : Option Int} (h : HT.sIx xs.length 0 lo = 0 ∧ HT.sIx xs.length xs.length hi = xs.length) : cutD xs lo hi = xs := by
  unfold cutD
  rw [h.1, h.2]
  simp
def eSl (fa : DE) (lo hi : Sd → R (Option Int)) : DE := fun σ => fa σ >>= fun x => lo σ >>= fun l => hi σ >>= fun u => (slD x l u).quiet
variable {lo hi : Option Expr} {fl fh : Sd → R (Option Int)} {p2 : Pos}
theorem ed_slice (ha : ED X W a fa) (hl : OD X W lo fl) (hh : OD X W hi fh) : ED X W (.Subscript a (.Slice lo hi none p2) pos) (eSl fa fl fh) :=
  pe_imp (pe_slice sl_D ha hl hh) fun σ H Q ⟨Oc, Om, σd, s, h⟩ => tD_seq s h fun x u H1 e1 rx s1 h1 => tDO_seq s1 h1 fun l H2 e2 s2 h2 => tDO_seq s2 h2 fun r H3 e3 s3 h3 => by
    have e13 := e1.trans (e2.trans e3)
    have rx3 := rx.mono (same_minus (O := Oc ++ Om) (e2.trans e3))
    cases x with
    | lst xs =>
      obtain ⟨a, vs, rfl, h4, h5⟩ := (show ∃ a vs, u = .ref a ∧ _ = some (HO.lst vs) ∧ RepL _ _ xs vs by unfold Rep at rx3; exact rx3)
      exact .inl ⟨a, vs, rfl, SqL.of (fz_sub h4), fun p hp => h3 _ _ (e13.trans (same_upd hp)) (rep_lstNew s3.1 hp (h5.cut l r))⟩
    | tup xs =>
      obtain ⟨a, vs, rfl, h4, h5⟩ := (rep_sq rx3)
      refine .inr (.inl ⟨a, vs, rfl, Same.seqT minus_sub h4, fun z => ?_, fun _ p hp => h3 _ _ (e13.trans (same_upd hp)) (rep_tupNew s3.1 hp (h5.cut l r))⟩)
      have z' : cutD xs l r = xs := cutD_whole (by rw [← h5.length]; exact z)
      refine h3 _ H3 e13 ?_
      show Rep _ _ (.tup (cutD xs l r)) _
      rw [z']
      exact rx3
    | str z =>
      simp only [slD] at h3
      split at h3
      · cases rx3
        exact .inr (.inr ⟨z, rfl, by assumption, h3 _ H3 e13 rfl⟩)
      · exact h3.elim
    | _ => exact h3.elim
/-! ### a call of a built-in -/
def SemL (B : Bd) (r : List V → Hp → VK → Prop) (g : List D → R D) : Prop := ∀ (Oc Om : List Addr) (H : Hp) (xs : List D) (us : List V) (Q : VK), (∀ a ∈ Oc ++ Om, H a ≠ none) → RepL B (fz H Oc Om) xs us →
  (g xs).post (fun d => ∀ w H', Same H H' → Rep B (fz H' Oc Om) d w → Q w H') (fun _ => False) → r us H Q
variable {es : List Expr} {fs : Sd → R (List D)}
theorem eOL_read {r : List V → Hp → VK → Prop} {g : List D → R D} (sem : SemL (bdOf X) r g) {σ : L2.St} {H : Hp} {Q : VK} (h : tD (bdOf X) W (eOL g fs) σ H Q) : tCB r (tDA (bdOf X) W fs) σ H Q := by
  obtain ⟨Oc, Om, σd, s, h⟩ := h
  exact tDA_seq s h fun ds vs H1 e1 rs s1 h1 => sem Oc Om H1 ds vs Q s1.1 rs (post_q h1 e1)
theorem ed_callB {r : List V → Hp → VK → Prop} {g : List D → R D} {x : Str} {id : String} {p : Pos} (hc : CallR X (.builtin id) r) (sem : SemL (bdOf X) r g) (hg : Gl X x) (hm : X.mg x = none) (hv : bootBuiltins x = some (.builtin id)) (ha : AD X W (e :: es) fs)
    (hn : x ≠ "__name__" := by decide) (hdb : (x == ("__debug__" : Str)) = false := by decide)
    (he : starEach (e :: es) X.env = (false, eval e X.env) :: starEach es X.env := by rfl) (hpl : (backTo pos (starEach es X.env)).any (·.1) = false := by rfl) : ED X W (.Call (.Name x p) (e :: es) [] pos) (eOL g fs) :=
  pe_imp (pe_callB hc hg hm hv ha hn hdb he hpl) fun _ _ _ h => eOL_read sem h
theorem ed_callTy {r : List V → Hp → VK → Prop} {g : List D → R D} {x : Str} {T : String} {p : Pos} (hc : CallR X (.type T) r) (sem : SemL (bdOf X) r g) (hg : Gl X x) (hm : X.mg x = none) (hv : bootBuiltins x = some (.type T)) (ha : AD X W (e :: es) fs)
    (hn : x ≠ "__name__" := by decide) (hdb : (x == ("__debug__" : Str)) = false := by decide)
    (he : starEach (e :: es) X.env = (false, eval e X.env) :: starEach es X.env := by rfl) (hpl : (backTo pos (starEach es X.env)).any (·.1) = false := by rfl) : ED X W (.Call (.Name x p) (e :: es) [] pos) (eOL g fs) :=
  pe_imp (pe_callTy hc hg hm hv ha hn hdb he hpl) fun _ _ _ h => eOL_read sem h
theorem repl1 {B : Bd} {G : Hp} {x : D} {us : List V} (h : RepL B G [x] us) : ∃ u, us = [u] ∧ Rep B G x u := by
  obtain ⟨v, r, rfl, h1, h2⟩ := h
  rw [show r = [] from h2]
  exact ⟨v, rfl, h1⟩
theorem repl2 {B : Bd} {G : Hp} {x y : D} {us : List V} (h : RepL B G [x, y] us) : ∃ u v, us = [u, v] ∧ Rep B G x u ∧ Rep B G y v := by
  obtain ⟨v, r, rfl, h1, h2⟩ := h
  obtain ⟨w, rfl, h3⟩ := repl1 h2
  exact ⟨v, w, rfl, h1, h3⟩
/-! len -/
def lenD : List D → R D
  | [.lst xs] => .ok (.int xs.length)
  | [.tup xs] => .ok (.int xs.length)
  | [.src ns] => .ok (.int ns.length)
  | [.str z] => if z.length ≤ sizeLine then .ok (.int z.length) else .stuck
  | _ => .stuck
def rLenD (K : PySem.W.Frag) : List V → Hp → VK → Prop := fun xs H Q => (∃ p ys, xs = [.ref p] ∧ (SqL K H p ys ∨ SqT K H p ys) ∧ Q (.int ys.length) H) ∨ ∃ z, xs = [.str z] ∧ z.length ≤ sizeLine ∧ Q (.int z.length) H
theorem cr_lenD : CallR X (.builtin "len") (rLenD X.K) := call_len_seq.or call_len_str
theorem sem_len : SemL (bdOf X) (rLenD X.K) lenD := by
  intro Oc Om H xs us Q hO rs h
  rcases xs with _ | ⟨x1, _ | ⟨x2, _ | ⟨x3, rr⟩⟩⟩
  · exact h.elim
  · cases x1 with
    | lst ds =>
      obtain ⟨u, rfl, r⟩ := repl1 rs
      obtain ⟨a, vs, rfl, h1, h2⟩ := (show ∃ a vs, u = .ref a ∧ _ = some (HO.lst vs) ∧ RepL _ _ ds vs by unfold Rep at r; exact r)
      exact .inl ⟨a, vs, rfl, .inl (SqL.of (fz_sub h1)), by rw [h2.length]; exact h _ H (Same.refl _) rfl⟩
    | tup ds =>
      obtain ⟨u, rfl, r⟩ := repl1 rs
      obtain ⟨a, vs, rfl, h1, h2⟩ := (rep_sq r)
      exact .inl ⟨a, vs, rfl, .inr (Same.seqT minus_sub h1), by rw [h2.length]; exact h _ H (Same.refl _) rfl⟩
    | src ns =>
      obtain ⟨u, rfl, r⟩ := repl1 rs
      obtain ⟨a, rfl, h1⟩ := (show ∃ a, u = .ref a ∧ SqL X.K _ a (ns.map V.int) by unfold Rep at r; exact r)
      exact .inl ⟨a, _, rfl, .inl (minus_sub.seq h1), by rw [List.length_map]; exact h _ H (Same.refl _) rfl⟩
    | str z =>
      obtain ⟨u, rfl, r⟩ := repl1 rs
      cases r
      simp only [lenD] at h
      split at h
      · exact .inr ⟨z, rfl, by assumption, h _ H (Same.refl _) rfl⟩
      · exact h.elim
    | _ => exact h.elim
  · cases x1 <;> exact h.elim
  · cases x1 <;> first | exact h.elim | (cases x2 <;> exact h.elim)
/-! all, any -/
def blsOf : List D → Option (List Bool)
  | [] => some []
  | .bl b :: ds => (blsOf ds).map (b :: ·)
  | _ :: _ => none
theorem RepL.blsOf {B : Bd} {G : Hp} : ∀ {ds : List D} {vs : List V} {bs : List Bool}, RepL B G ds vs → FF.blsOf ds = some bs → vs = bs.map V.bl
  | [], _, _, h, e => by
    cases e
    exact h
  | d :: ds, _, bs, h, e => by
    obtain ⟨v, r, rfl, h1, h2⟩ := h
    cases d <;> first | (simp [FF.blsOf] at e; done) | skip
    rename_i b
    cases q : FF.blsOf ds with
    | none => simp [FF.blsOf, q] at e
    | some cs =>
      simp only [FF.blsOf, q, Option.map_some, Option.some.injEq] at e
      subst e
      rw [RepL.blsOf h2 q, show v = V.bl b from h1]
      rfl
def allD : List D → R D
  | [.lst ds] => match blsOf ds with
    | some bs => .ok (.bl (bs.all id))
    | none => .stuck
  | _ => .stuck
def anyD : List D → R D
  | [.lst ds] => match blsOf ds with
    | some bs => .ok (.bl (bs.any id))
    | none => .stuck
  | _ => .stuck
theorem sem_all : SemL (bdOf X) (rAll X.K) allD := by
  intro Oc Om H xs us Q hO rs h
  rcases xs with _ | ⟨x1, _ | ⟨x2, _ | ⟨x3, rr⟩⟩⟩
  · exact h.elim
  · cases x1 with
    | lst ds =>
      obtain ⟨u, rfl, r⟩ := repl1 rs
      obtain ⟨a, vs, rfl, h1, h2⟩ := (show ∃ a vs, u = .ref a ∧ _ = some (HO.lst vs) ∧ RepL _ _ ds vs by unfold Rep at r; exact r)
      simp only [allD] at h
      split at h
      · rename_i bs q
        exact ⟨a, bs, rfl, by rw [← h2.blsOf q]; exact SqL.of (fz_sub h1), h _ H (Same.refl _) rfl⟩
      · exact h.elim
    | _ => exact h.elim
  · cases x1 <;> exact h.elim
  · cases x1 <;> first | exact h.elim | (cases x2 <;> exact h.elim)
theorem sem_any : SemL (bdOf X) (rAny X.K) anyD := by
  intro Oc Om H xs us Q hO rs h
  rcases xs with _ | ⟨x1, _ | ⟨x2, _ | ⟨x3, rr⟩⟩⟩
  · exact h.elim
  · cases x1 with
    | lst ds =>
      obtain ⟨u, rfl, r⟩ := repl1 rs
      obtain ⟨a, vs, rfl, h1, h2⟩ := (show ∃ a vs, u = .ref a ∧ _ = some (HO.lst vs) ∧ RepL _ _ ds vs by unfold Rep at r; exact r)
      simp only [anyD] at h
      split at h
      · rename_i bs q
        exact ⟨a, bs, rfl, by rw [← h2.blsOf q]; exact SqL.of (fz_sub h1), h _ H (Same.refl _) rfl⟩
      · exact h.elim
    | _ => exact h.elim
  · cases x1 <;> exact h.elim
  · cases x1 <;> first | exact h.elim | (cases x2 <;> exact h.elim)
/-! sum, min, max -/
def intsOf : List D → Option (List Int)
  | [] => some []
  | .int b :: ds => (intsOf ds).map (b :: ·)
  | _ :: _ => none
theorem RepL.intsOf {B : Bd} {G : Hp} : ∀ {ds : List D} {vs : List V} {bs : List Int}, RepL B G ds vs → FF.intsOf ds = some bs → vs = bs.map V.int
  | [], _, _, h, e => by
    cases e
    exact h
  | d :: ds, _, bs, h, e => by
    obtain ⟨v, r, rfl, h1, h2⟩ := h
    cases d <;> first | (simp [FF.intsOf] at e; done) | skip
    rename_i b
    cases q : FF.intsOf ds with
    | none => simp [FF.intsOf, q] at e
    | some cs =>
      simp only [FF.intsOf, q, Option.map_some, Option.some.injEq] at e
      subst e
      rw [RepL.intsOf h2 q, show v = V.int b from h1]
      rfl
def sumD : List D → R D
  | [.lst ds] => match intsOf ds with
    | some bs => .ok (.int bs.sum)
    | none => .stuck
  | [.tup ds] => match intsOf ds with
    | some bs => .ok (.int bs.sum)
    | none => .stuck
  | _ => .stuck
def minI : List Int → Option Int
  | [] => none
  | n :: ns => some (ns.foldl min n)
def maxI : List Int → Option Int
  | [] => none
  | n :: ns => some (ns.foldl max n)
def minD1 : List D → R D
  | [.lst ds] => match (intsOf ds).bind minI with
    | some m => .ok (.int m)
    | none => .stuck
  | [.int i, .int j] => .ok (.int (if j < i then j else i))
  | _ => .stuck
def maxD1 : List D → R D
  | [.lst ds] => match (intsOf ds).bind maxI with
    | some m => .ok (.int m)
    | none => .stuck
  | [.int i, .int j] => .ok (.int (if j > i then j else i))
  | _ => .stuck
theorem foldl_min_spec : ∀ (ns : List Int) (n : Int), (ns.foldl min n ∈ n :: ns) ∧ ∀ y ∈ n :: ns, ns.foldl min n ≤ y
  | [], n => ⟨by simp, by simp⟩
  | k :: ns, n => by
    obtain ⟨h1, h2⟩ := foldl_min_spec ns (min n k)
    rw [List.foldl_cons]
    refine ⟨?_, fun y hy => ?_⟩
    · rcases List.mem_cons.mp h1 with q | q
      · rw [q]
        by_cases z : n ≤ k
        · rw [Int.min_eq_left z]; simp
        · rw [Int.min_eq_right (by omega)]; simp
      · simp [q]
    · have h3 := h2 (min n k) (by simp)
      rcases List.mem_cons.mp hy with q | q
      · subst q; exact Int.le_trans h3 (Int.min_le_left _ _)
      · rcases List.mem_cons.mp q with q | q
        · subst q; exact Int.le_trans h3 (Int.min_le_right _ _)
        · exact h2 y (by simp [q])
theorem foldl_max_spec : ∀ (ns : List Int) (n : Int), (ns.foldl max n ∈ n :: ns) ∧ ∀ y ∈ n :: ns, y ≤ ns.foldl max n
  | [], n => ⟨by simp, by simp⟩
  | k :: ns, n => by
    obtain ⟨h1, h2⟩ := foldl_max_spec ns (max n k)
    rw [List.foldl_cons]
    refine ⟨?_, fun y hy => ?_⟩
    · rcases List.mem_cons.mp h1 with q | q
      · rw [q]
        by_cases z : n ≤ k
        · rw [Int.max_eq_right z]; simp
        · rw [Int.max_eq_left (by omega)]; simp
      · simp [q]
    · have h3 := h2 (max n k) (by simp)
      rcases List.mem_cons.mp hy with q | q
      · subst q; exact Int.le_trans (Int.le_max_left _ _) h3
      · rcases List.mem_cons.mp q with q | q
        · subst q; exact Int.le_trans (Int.le_max_right _ _) h3
        · exact h2 y (by simp [q])
def rMinD (K : PySem.W.Frag) : List V → Hp → VK → Prop := fun xs H Q => rMin K xs H Q ∨ ∃ i j, xs = [.int i, .int j] ∧ Q (.int (if j < i then j else i)) H
def rMaxD (K : PySem.W.Frag) : List V → Hp → VK → Prop := fun xs H Q => rMax K xs H Q ∨ ∃ i j, xs = [.int i, .int j] ∧ Q (.int (if j > i then j else i)) H
theorem cr_minD (hc : X.calm = true) : CallR X (.builtin "min") (rMinD X.K) := (cr_min hc).or (call_min2 hc)
theorem cr_maxD (hc : X.calm = true) : CallR X (.builtin "max") (rMaxD X.K) := (cr_max hc).or (call_max2 hc)
theorem sem_min : SemL (bdOf X) (rMinD X.K) minD1 := by
  intro Oc Om H xs us Q hO rs h
  rcases xs with _ | ⟨x1, _ | ⟨x2, _ | ⟨x3, rr⟩⟩⟩
  · exact h.elim
  · cases x1 with
    | lst ds =>
      obtain ⟨u, rfl, r⟩ := repl1 rs
      obtain ⟨a, vs, rfl, h1, h2⟩ := (show ∃ a vs, u = .ref a ∧ _ = some (HO.lst vs) ∧ RepL _ _ ds vs by unfold Rep at r; exact r)
      simp only [minD1] at h
      cases q : intsOf ds with
      | none => rw [q] at h; exact h.elim
      | some ns =>
        rw [q] at h
        cases ns with
        | nil => exact h.elim
        | cons n ns =>
          obtain ⟨k1, k2⟩ := foldl_min_spec ns n
          refine .inl ⟨a, n :: ns, rfl, by rw [← h2.intsOf q]; exact SqL.of (fz_sub h1), by simp, fun m hm hle => ?_⟩
          have e : m = ns.foldl min n := Int.le_antisymm (hle _ k1) (k2 m hm)
          rw [e]
          exact h _ H (Same.refl _) rfl
    | _ => exact h.elim
  · cases x1 <;> cases x2 <;> first | exact h.elim | skip
    rename_i i j
    obtain ⟨u, v, rfl, r1, r2⟩ := repl2 rs
    cases r1; cases r2
    exact .inr ⟨i, j, rfl, h _ H (Same.refl _) rfl⟩
  · cases x1 <;> first | exact h.elim | (cases x2 <;> exact h.elim)
theorem sem_max : SemL (bdOf X) (rMaxD X.K) maxD1 := by
  intro Oc Om H xs us Q hO rs h
  rcases xs with _ | ⟨x1, _ | ⟨x2, _ | ⟨x3, rr⟩⟩⟩
  · exact h.elim
  · cases x1 with
    | lst ds =>
      obtain ⟨u, rfl, r⟩ := repl1 rs
      obtain ⟨a, vs, rfl, h1, h2⟩ := (show ∃ a vs, u = .ref a ∧ _ = some (HO.lst vs) ∧ RepL _ _ ds vs by unfold Rep at r; exact r)
      simp only [maxD1] at h
      cases q : intsOf ds with
      | none => rw [q] at h; exact h.elim
      | some ns =>
        rw [q] at h
        cases ns with
        | nil => exact h.elim
        | cons n ns =>
          obtain ⟨k1, k2⟩ := foldl_max_spec ns n
          refine .inl ⟨a, n :: ns, rfl, by rw [← h2.intsOf q]; exact SqL.of (fz_sub h1), by simp, fun m hm hle => ?_⟩
          have e : m = ns.foldl max n := Int.le_antisymm (k2 m hm) (hle _ k1)
          rw [e]
          exact h _ H (Same.refl _) rfl
    | _ => exact h.elim
  · cases x1 <;> cases x2 <;> first | exact h.elim | skip
    rename_i i j
    obtain ⟨u, v, rfl, r1, r2⟩ := repl2 rs
    cases r1; cases r2
    exact .inr ⟨i, j, rfl, h _ H (Same.refl _) rfl⟩
  · cases x1 <;> first | exact h.elim | (cases x2 <;> exact h.elim)
/-! abs, int -/
def absD : List D → R D
  | [.int i] => .ok (.int (if i < 0 then -i else i))
  | _ => .stuck
theorem sem_abs : SemL (bdOf X) (fun xs H Q => ∃ i, xs = [.int i] ∧ Q (.int (if i < 0 then -i else i)) H) absD := by
  intro Oc Om H xs us Q hO rs h
  rcases xs with _ | ⟨x1, _ | ⟨x2, _ | ⟨x3, rr⟩⟩⟩
  · exact h.elim
  · cases x1 with
    | int i =>
      obtain ⟨u, rfl, r⟩ := repl1 rs
      cases r
      exact ⟨i, rfl, h _ H (Same.refl _) rfl⟩
    | _ => exact h.elim
  · cases x1 <;> exact h.elim
  · cases x1 <;> first | exact h.elim | (cases x2 <;> exact h.elim)
/-! list, tuple -/
def listD : List D → R D
  | [.lst ds] => .ok (.lst ds)
  | [.tup ds] => .ok (.lst ds)
  | [.src ns] => .ok (.lst (ns.map .int))
  | _ => .stuck
def tupleD : List D → R D
  | [.lst ds] => .ok (.tup ds)
  | [.tup ds] => .ok (.tup ds)
  | _ => .stuck
theorem repl_ints {B : Bd} {G : Hp} : ∀ ns : List Int, RepL B G (ns.map D.int) (ns.map V.int)
  | [] => rfl
  | n :: ns => ⟨_, _, rfl, rfl, repl_ints ns⟩
theorem sem_list : SemL (bdOf X) (fun xs H Q => ∃ p ys, xs = [.ref p] ∧ (SqL X.K H p ys ∨ SqT X.K H p ys) ∧ ∀ l, H l = none → Q (.ref l) (upd H l (.lst ys))) listD := by
  intro Oc Om H xs us Q hO rs h
  rcases xs with _ | ⟨x1, _ | ⟨x2, _ | ⟨x3, rr⟩⟩⟩
  · exact h.elim
  · cases x1 with
    | lst ds =>
      obtain ⟨u, rfl, r⟩ := repl1 rs
      obtain ⟨a, vs, rfl, h1, h2⟩ := (show ∃ a vs, u = .ref a ∧ _ = some (HO.lst vs) ∧ RepL _ _ ds vs by unfold Rep at r; exact r)
      exact ⟨a, vs, rfl, .inl (SqL.of (fz_sub h1)), fun p hp => h _ _ (same_upd hp) (rep_lstNew hO hp h2)⟩
    | tup ds =>
      obtain ⟨u, rfl, r⟩ := repl1 rs
      obtain ⟨a, vs, rfl, h1, h2⟩ := (rep_sq r)
      exact ⟨a, vs, rfl, .inr (Same.seqT minus_sub h1), fun p hp => h _ _ (same_upd hp) (rep_lstNew hO hp h2)⟩
    | src ns =>
      obtain ⟨u, rfl, r⟩ := repl1 rs
      obtain ⟨a, rfl, h1⟩ := (show ∃ a, u = .ref a ∧ SqL X.K _ a (ns.map V.int) by unfold Rep at r; exact r)
      exact ⟨a, _, rfl, .inl (minus_sub.seq h1), fun p hp => h _ _ (same_upd hp) (rep_lstNew hO hp (repl_ints ns))⟩
    | _ => exact h.elim
  · cases x1 <;> exact h.elim
  · cases x1 <;> first | exact h.elim | (cases x2 <;> exact h.elim)
theorem sem_tuple : SemL (bdOf X) (fun xs H Q => ∃ p ys, xs = [.ref p] ∧ ((SqL X.K H p ys ∧ ∀ l, H l = none → Q (.ref l) (upd H l (.tup ys))) ∨ (SqT X.K H p ys ∧ Q (.ref p) H))) tupleD := by
  intro Oc Om H xs us Q hO rs h
  rcases xs with _ | ⟨x1, _ | ⟨x2, _ | ⟨x3, rr⟩⟩⟩
  · exact h.elim
  · cases x1 with
    | lst ds =>
      obtain ⟨u, rfl, r⟩ := repl1 rs
      obtain ⟨a, vs, rfl, h1, h2⟩ := (show ∃ a vs, u = .ref a ∧ _ = some (HO.lst vs) ∧ RepL _ _ ds vs by unfold Rep at r; exact r)
      exact ⟨a, vs, rfl, .inl ⟨SqL.of (fz_sub h1), fun p hp => h _ _ (same_upd hp) (rep_tupNew hO hp h2)⟩⟩
    | tup ds =>
      obtain ⟨u, rfl, r⟩ := repl1 rs
      have r' := r
      obtain ⟨a, vs, rfl, h1, h2⟩ := (rep_sq r)
      exact ⟨a, vs, rfl, .inr ⟨Same.seqT minus_sub h1, h _ H (Same.refl _) r'⟩⟩
    | _ => exact h.elim
  · cases x1 <;> exact h.elim
  · cases x1 <;> first | exact h.elim | (cases x2 <;> exact h.elim)
/-! isinstance(x, T), T one of int, bool, tuple, str, list -/
def tyName : D → Option String
  | .non => some "NoneType"
  | .bl _ => some "bool"
  | .int _ => some "int"
  | .str _ => some "str"
  | .tup _ => some "tuple"
  | .lst _ => some "list"
  | _ => none
def isiD (T : String) : List D → R D
  | [x] => match (tyName x).bind fun n => kitB n T with
    | some b => .ok (.bl b)
    | none => .stuck
  | _ => .stuck
end FF
set_option maxHeartbeats 4000000
/-! calls, statements, loops, comprehensions, defs -/
namespace FF
open PySem PySem.Spec PyProof.Rows L2
/-! ### how a statement ends -/
inductive Out where
  | next (σ : Sd) | ret (d : D) (σ : Sd) | brk (σ : Sd) | cont (σ : Sd) | exc (c : Str) (σ : Sd) | stuck
abbrev DS := Sd → Out
/-- what is wanted behind an end, by the state it leaves -/
def Out.post (o : Out) (N : Sd → Prop) (Rt : D → Sd → Prop) (Bk Ct : Sd → Prop) (E : Str → Sd → Prop) : Prop := match o with
  | .next σ => N σ
  | .ret d σ => Rt d σ
  | .brk σ => Bk σ
  | .cont σ => Ct σ
  | .exc c σ => E c σ
  | .stuck => False
def Out.bind (o : Out) (g : Sd → Out) : Out := match o with
  | .next σ => g σ
  | o => o
def wNx (B : Bd) (Oc Om : List Addr) (H : Hp) (k : L2.St → Hp → Prop) (σd : Sd) : Prop := ∀ σ' Om' H', SR B Oc Om' σd σ' H' → Ext Om H Om' H' → k σ' H'
def wRt (B : Bd) (Oc Om : List Addr) (H : Hp) (k : VK) (d : D) (σd : Sd) : Prop := ∀ v σ' Om' H', SR B Oc Om' σd σ' H' → Ext Om H Om' H' → Rep B (fz H' Oc Om') d v → k v H'
def wEx (B : Bd) (W : WX) (Oc Om : List Addr) (H : Hp) (c : Str) (σd : Sd) : Prop := ∀ C σ' Om' H', B.mg c = some (.ref C) → SR B Oc Om' σd σ' H' → Ext Om H Om' H' → W (.ref C) none σ' H'
theorem wNx.ext {B : Bd} {Oc Om Om1 : List Addr} {H H1 : Hp} {k : L2.St → Hp → Prop} {σd : Sd} (x : Ext Om H Om1 H1) (h : wNx B Oc Om H k σd) : wNx B Oc Om1 H1 k σd := fun σ' Om' H' s y => h σ' Om' H' s (x.trans y)
theorem wRt.ext {B : Bd} {Oc Om Om1 : List Addr} {H H1 : Hp} {k : VK} {d : D} {σd : Sd} (x : Ext Om H Om1 H1) (h : wRt B Oc Om H k d σd) : wRt B Oc Om1 H1 k d σd := fun v σ' Om' H' s y r => h v σ' Om' H' s (x.trans y) r
theorem wEx.ext {B : Bd} {W : WX} {Oc Om Om1 : List Addr} {H H1 : Hp} {c : Str} {σd : Sd} (x : Ext Om H Om1 H1) (h : wEx B W Oc Om H c σd) : wEx B W Oc Om1 H1 c σd := fun C σ' Om' H' hc s y => h C σ' Om' H' hc s (x.trans y)
def Out.all (B : Bd) (W : WX) (Oc Om : List Addr) (H : Hp) (Dn : Ends) (o : Out) : Prop := o.post (wNx B Oc Om H Dn.nx) (wRt B Oc Om H Dn.rt) (wNx B Oc Om H Dn.bk) (wNx B Oc Om H Dn.ct) (wEx B W Oc Om H)
theorem Out.all_ext {B : Bd} {W : WX} {Oc Om Om1 : List Addr} {H H1 : Hp} {Dn : Ends} {o : Out} (x : Ext Om H Om1 H1) (h : o.all B W Oc Om H Dn) : o.all B W Oc Om1 H1 Dn := by
  cases o with
  | next σ => exact wNx.ext x h
  | ret d σ => exact wRt.ext x h
  | brk σ => exact wNx.ext x h
  | cont σ => exact wNx.ext x h
  | exc c σ => exact wEx.ext x h
  | stuck => exact h
def tS (B : Bd) (W : WX) (g : DS) : TS := fun Dn σ H => ∃ Oc Om σd, SR B Oc Om σd σ H ∧ (g σd).all B W Oc Om H Dn
abbrev SD (X : Cx) (W : WX) (st : Stmt) (g : DS) : Prop := PS X st (tS (bdOf X) W g)
abbrev SDs (X : Cx) (W : WX) (st : List Stmt) (g : DS) : Prop := PSs X st (tS (bdOf X) W g)
section
variable {X : Cx} {W : WX} {e : Expr} {f : DE} {pos : Pos}
theorem ps_imp {st : Stmt} {t t' : TS} (h : PS X st t) (i : ∀ Dn σ H, t' Dn σ H → t Dn σ H) : PS X st t' := ⟨fun pins s σ H Dn I q => h.run pins s σ H Dn I (i Dn σ H q)⟩
theorem pss_imp {st : List Stmt} {t t' : TS} (h : PSs X st t) (i : ∀ Dn σ H, t' Dn σ H → t Dn σ H) : PSs X st t' := ⟨fun pins s σ H Dn I q => h.run pins s σ H Dn I (i Dn σ H q)⟩
/-- an expression's result as a statement's -/
def R.toOut {α : Type} (r : R α) (σ : Sd) (k : α → Out) : Out := match r with
  | .ok a => k a
  | .exc c => .exc c σ
  | .stuck => .stuck
theorem toOut_seq {Oc Om : List Addr} {σd : Sd} {σ : L2.St} {H : Hp} {k : D → Out} {Dn : Ends} {Q1 : VK} (s : SR (bdOf X) Oc Om σd σ H) (h : ((f σd).toOut σd k).all (bdOf X) W Oc Om H Dn)
    (hk : ∀ d v H1, Same H H1 → Rep (bdOf X) (fz H1 Oc Om) d v → SR (bdOf X) Oc Om σd σ H1 → (k d).all (bdOf X) W Oc Om H1 Dn → Q1 v H1) : tD (bdOf X) W f σ H Q1 := by
  refine ⟨Oc, Om, σd, s, ?_⟩
  cases q : f σd with
  | ok d =>
    rw [q] at h
    exact fun v H1 e r => hk d v H1 e r (s.same e) (Out.all_ext (.of_same e) h)
  | exc c =>
    rw [q] at h
    exact fun C H' hc e => h C σ Om H' hc (s.same e) (.of_same e)
  | stuck => rw [q] at h; exact h
theorem toOut_seqT {t : Sd → R Bool} {Oc Om : List Addr} {σd : Sd} {σ : L2.St} {H : Hp} {k : Bool → Out} {Dn : Ends} {Q1 : Bool → Hp → Prop} (s : SR (bdOf X) Oc Om σd σ H) (h : ((t σd).toOut σd k).all (bdOf X) W Oc Om H Dn)
    (hk : ∀ b H1, Same H H1 → SR (bdOf X) Oc Om σd σ H1 → (k b).all (bdOf X) W Oc Om H1 Dn → Q1 b H1) : tDT (bdOf X) W t σ H Q1 := by
  refine ⟨Oc, Om, σd, s, ?_⟩
  cases q : t σd with
  | ok d =>
    rw [q] at h
    exact fun H1 e => hk d H1 e (s.same e) (Out.all_ext (.of_same e) h)
  | exc c =>
    rw [q] at h
    exact fun C H' hc e => h C σ Om H' hc (s.same e) (.of_same e)
  | stuck => rw [q] at h; exact h
/-! ### blocks -/
def sNil : DS := fun σ => .next σ
def sCons (g h : DS) : DS := fun σ => (g σ).bind h
theorem sds_nil : SDs X W [] sNil := pss_imp pss_nil fun Dn σ H ⟨Oc, Om, σd, s, h⟩ => h σ Om H s .refl
variable {st : Stmt} {rest : List Stmt} {g h : DS}
theorem sds_cons (h1 : SD X W st g) (h2 : SDs X W rest h) : SDs X W (st :: rest) (sCons g h) := pss_imp (pss_cons h1 h2) fun Dn σ H ⟨Oc, Om, σd, s, q⟩ => by
  refine ⟨Oc, Om, σd, s, ?_⟩
  unfold sCons at q
  cases z : g σd with
  | next σ1 =>
    rw [z] at q
    exact fun σ' Om' H' s' x => ⟨Oc, Om', σ1, s', Out.all_ext x q⟩
  | ret d σ1 => rw [z] at q; exact q
  | brk σ1 => rw [z] at q; exact q
  | cont σ1 => rw [z] at q; exact q
  | exc c σ1 => rw [z] at q; exact q
  | stuck => rw [z] at q; exact q
theorem sds_one (h1 : SD X W st g) : SDs X W [st] g := pss_one h1
/-- what a name holds is forgotten -/
def sClr (is : List Nat) (g : DS) : DS := fun σ => g (clr is σ)
theorem sds_clr {is : List Nat} {sts : List Stmt} (h1 : SDs X W sts g) : SDs X W sts (sClr is g) := pss_imp h1 fun Dn σ H ⟨Oc, Om, σd, s, q⟩ => ⟨Oc, Om, _, s.clr, q⟩
/-! ### plain statements -/
def sExpr (f : DE) : DS := fun σ => (f σ).toOut σ fun _ => .next σ
def sRet (f : DE) : DS := fun σ => (f σ).toOut σ fun d => .ret d σ
def sRetN : DS := fun σ => .ret .non σ
def sPass : DS := fun σ => .next σ
def sSet (i : Nat) (f : DE) : DS := fun σ => (f σ).toOut σ fun d => if i < σ.length then .next (σ.set i (some d)) else .stuck
theorem sd_expr (he : ED X W e f) (hs : swapsWith e none pos.line X.env = pure false := by rfl) : SD X W (.Expr e pos) (sExpr f) :=
  ps_imp (ps_expr he hs) fun Dn σ H ⟨Oc, Om, σd, s, h⟩ => toOut_seq s h fun d v H1 e1 r s1 h1 => h1 σ Om H1 s1 .refl
theorem sd_ret (he : ED X W e f) : SD X W (.Return (some e) pos) (sRet f) :=
  ps_imp (ps_ret he) fun Dn σ H ⟨Oc, Om, σd, s, h⟩ => toOut_seq s h fun d v H1 e1 r s1 h1 => h1 v σ Om H1 s1 .refl r
theorem sd_retN : SD X W (.Return none pos) sRetN :=
  ps_imp ps_retN fun Dn σ H ⟨Oc, Om, σd, s, h⟩ => h .non σ Om H s .refl rfl
theorem sd_pass : SD X W (.Pass pos) sPass := ps_imp ps_pass fun Dn σ H ⟨Oc, Om, σd, s, h⟩ => h σ Om H s .refl
theorem sd_set {i : Nat} {x : Str} {pos' : Pos} (hN : X.N.Nodup) (hi : X.N[i]? = some x) (hx : Loc X.env.scope x) (he : ED X W e f) (hs : swapsWith e (some (.Name x pos')) pos.line X.env = pure false := by rfl)
    (hf : X.fn x = true ∨ X.env.scope.names.lookup x = some .local := by first | exact .inl rfl | exact .inr rfl | assumption) : SD X W (.Assign [.Name x pos'] e pos) (sSet i f) :=
  ps_imp (ps_set hN hi hx he hs hf) fun Dn σ H ⟨Oc, Om, σd, s, h⟩ => toOut_seq s h fun d v H1 e1 r s1 h1 => by
    split at h1
    · rename_i hl
      exact h1 _ Om H1 (s1.setF' hl r) .refl
    · exact h1.elim
def sIf (t : Sd → R Bool) (g h : DS) : DS := fun σ => (t σ).toOut σ fun b => if b = true then g σ else h σ
theorem sd_if {c : Expr} {t : Sd → R Bool} {a b : List Stmt} (hc : TD X W c t) (ha : SDs X W a g) (hb : SDs X W b h) : SD X W (.If c a b pos) (sIf t g h) :=
  ps_imp (ps_if hc ha hb) fun Dn σ H ⟨Oc, Om, σd, s, q⟩ => toOut_seqT s q fun k H1 e1 s1 h1 => by
    cases k with
    | true => exact iteT ⟨Oc, Om, σd, s1, h1⟩
    | false => exact iteF ⟨Oc, Om, σd, s1, h1⟩
end
/-! ### targets -/
inductive Tgt where
  | nm (i : Nat)
  | tp (ts : List Tgt)
  | tl (ts : List Tgt)
mutual
def Tgt.g (K : PySem.W.Frag) : Tgt → TG
  | .nm i => gName i
  | .tp ts => gTup K ts.length (Tgt.gs K ts)
  | .tl ts => gLst K ts.length (Tgt.gs K ts)
def Tgt.gs (K : PySem.W.Frag) : List Tgt → TGs
  | [] => gNil
  | t :: ts => gCons (Tgt.g K t) (Tgt.gs K ts)
end
mutual
def Tgt.put : Tgt → D → Sd → R Sd
  | .nm i, d, σ => if i < σ.length then .ok (σ.set i (some d)) else .stuck
  | .tp ts, d, σ => match d with
    | .tup ds => if ds.length = ts.length then Tgt.puts ts ds σ else .stuck
    | _ => .stuck
  | .tl ts, d, σ => match d with
    | .lst ds => if ds.length = ts.length then Tgt.puts ts ds σ else .stuck
    | _ => .stuck
def Tgt.puts : List Tgt → List D → Sd → R Sd
  | [], _, σ => .ok σ
  | t :: ts, ds, σ => match ds with
    | [] => .stuck
    | d :: r => Tgt.put t d σ >>= Tgt.puts ts r
end
mutual
def Tgt.slots : Tgt → List Nat
  | .nm i => [i]
  | .tp ts => Tgt.slotsL ts
  | .tl ts => Tgt.slotsL ts
def Tgt.slotsL : List Tgt → List Nat
  | [] => []
  | t :: ts => t.slots ++ Tgt.slotsL ts
end
theorem wipe_set {σ : L2.St} {i : Nat} {x : Option V} : ∀ {vs : List Nat}, i ∈ vs → wipe (σ.set i x) vs = wipe σ vs
  | [], h => by simp at h
  | v :: vs, h => by
    unfold wipe
    by_cases hi : i ∈ vs
    · rw [wipe_set hi]
    · have e : i = v := by
        rcases List.mem_cons.mp h with q | q
        · exact q
        · exact absurd q hi
      subst e
      have z : ∀ ws : List Nat, i ∉ ws → wipe (σ.set i x) ws = (wipe σ ws).set i x := fun ws => by
        induction ws with
        | nil => intro _; rfl
        | cons w ws ih =>
          intro hw
          rw [List.mem_cons, not_or] at hw
          unfold wipe
          rw [ih hw.2, List.set_comm _ _ hw.1]
      rw [z vs hi, List.set_set]
section
variable {B : Bd} {Oc Om : List Addr} {H : Hp}
mutual
theorem Tgt.put_ok : ∀ (t : Tgt) {d : D} {v : V} {σd σd' : Sd} {σ : L2.St} {Q : L2.St → Hp → Prop}, SR B Oc Om σd σ H → Rep B (fz H Oc Om) d v → t.put d σd = .ok σd' →
    (∀ σ', SR B Oc Om σd' σ' H → (∀ vs, (∀ i ∈ t.slots, i ∈ vs) → wipe σ' vs = wipe σ vs) → Q σ' H) → t.g B.K v σ H Q
  | .nm i, d, v, σd, σd', σ, Q, s, r, e, h => by
    unfold Tgt.put at e
    split at e
    · rename_i hi
      cases e
      exact h _ (s.setF' hi r) fun vs hv => wipe_set (hv i (by simp [Tgt.slots]))
    · cases e
  | .tp ts, d, v, σd, σd', σ, Q, s, r, e, h => by
    unfold Tgt.put at e
    cases d with
    | tup ds =>
      simp only at e
      split at e
      · rename_i hl
        obtain ⟨a, vs, rfl, h1, h2⟩ := (rep_sq r)
        unfold Tgt.g
        exact ⟨a, vs, rfl, Same.seqT minus_sub h1, by rw [h2.length]; exact hl, Tgt.puts_ok ts s h2 hl e h⟩
      · cases e
    | _ => cases e
  | .tl ts, d, v, σd, σd', σ, Q, s, r, e, h => by
    unfold Tgt.put at e
    cases d with
    | lst ds =>
      simp only at e
      split at e
      · rename_i hl
        obtain ⟨a, vs, rfl, h1, h2⟩ := (show ∃ a vs, v = .ref a ∧ _ = some (HO.lst vs) ∧ RepL _ _ ds vs by unfold Rep at r; exact r)
        unfold Tgt.g
        exact ⟨a, vs, rfl, SqL.of (minus_sub _ _ h1), by rw [h2.length]; exact hl, Tgt.puts_ok ts s h2 hl e h⟩
      · cases e
    | _ => cases e
theorem Tgt.puts_ok : ∀ (ts : List Tgt) {ds : List D} {vs : List V} {σd σd' : Sd} {σ : L2.St} {Q : L2.St → Hp → Prop}, SR B Oc Om σd σ H → RepL B (fz H Oc Om) ds vs → ds.length = ts.length → Tgt.puts ts ds σd = .ok σd' →
    (∀ σ', SR B Oc Om σd' σ' H → (∀ vs, (∀ i ∈ Tgt.slotsL ts, i ∈ vs) → wipe σ' vs = wipe σ vs) → Q σ' H) → Tgt.gs B.K ts vs σ H Q
  | [], ds, vs, σd, σd', σ, Q, s, r, hl, e, h => by
    have hd : ds = [] := List.eq_nil_of_length_eq_zero hl
    subst hd
    have e' : σd = σd' := by
      unfold Tgt.puts at e
      injection e
    subst e'
    unfold Tgt.gs
    exact ⟨r, h σ s fun _ _ => rfl⟩
  | t :: ts, [], vs, σd, σd', σ, Q, s, r, hl, e, h => by simp at hl
  | t :: ts, d :: ds, vs, σd, σd', σ, Q, s, r, hl, e, h => by
    obtain ⟨v, w, rfl, h1, h2⟩ := r
    unfold Tgt.puts at e
    replace e : (t.put d σd >>= Tgt.puts ts ds) = .ok σd' := e
    cases q : t.put d σd with
    | ok σ1 =>
      rw [q] at e
      unfold Tgt.gs
      refine ⟨v, w, rfl, Tgt.put_ok t s h1 q fun σ' s' hw => ?_⟩
      refine Tgt.puts_ok ts s' h2 (by simpa using hl) e fun σ'' s'' hw' => h σ'' s'' fun vs hv => ?_
      rw [hw' vs fun i hi => hv i (by unfold Tgt.slotsL; simp [hi]), hw vs fun i hi => hv i (by unfold Tgt.slotsL; simp [hi])]
    | exc c => rw [q] at e; cases e
    | stuck => rw [q] at e; cases e
end
end
/-! ### what is walked -/
/-- J gives the data ds one by one, as long as what stood still stands -/
structure Yld (B : Bd) (J : It) (Oc Om : List Addr) (H : Hp) (ds : List D) : Prop where
  w : ∃ Y, Walk J ds.length (fun H' => Same (fz H Oc Om) H') Y ∧ ∀ i H' x H'', i < ds.length → Same (fz H Oc Om) H' → Y i H' x H'' → Same H' H'' ∧
    ∀ Oc' Om', (∀ a ∈ Oc' ++ Om', H' a ≠ none) → Same (fz H Oc Om) (fz H' Oc' Om') → ∃ d, ds[i]? = some d ∧ Rep B (fz H'' Oc' Om') d x
def tI (B : Bd) (W : WX) (f : Sd → R (List D)) : TI := fun σ H R => ∃ Oc Om σd, SR B Oc Om σd σ H ∧ (f σd).post (fun ds => ∀ J H', Same H H' → Yld B J Oc Om H' ds → R J H') (exE B W σ H)
abbrev ID (X : Cx) (W : WX) (tg iter : Expr) (f : Sd → R (List D)) : Prop := PI X tg iter (tI (bdOf X) W f)
section
variable {X : Cx} {W : WX} {e a b tg : Expr} {f fa fb : DE} {pos : Pos}
theorem pi_imp {iter : Expr} {t t' : TI} (h : PI X tg iter t) (i : ∀ σ H Q, t' σ H Q → t σ H Q) : PI X tg iter t' := ⟨fun pins s σ H Q I q => h.run pins s σ H Q I (i σ H Q q)⟩
theorem pi_or {iter : Expr} {t t' : TI} (h : PI X tg iter t) (h' : PI X tg iter t') : PI X tg iter (fun σ H Q => t σ H Q ∨ t' σ H Q) :=
  ⟨fun pins s σ H Q I q => q.elim (h.run pins s σ H Q I) (h'.run pins s σ H Q I)⟩
theorem rep_at {B : Bd} {G G' : Hp} {ds : List D} {vs : List V} (r : RepL B G ds vs) (e : Same G G') {i : Nat} {x : V} (hx : vs[i]? = some x) : ∃ d, ds[i]? = some d ∧ Rep B G' d x := by
  obtain ⟨hi, _⟩ := List.getElem?_eq_some_iff.mp hx
  rw [r.length] at hi
  obtain ⟨v, e1, e2⟩ := r.at (List.getElem?_eq_getElem hi)
  rw [hx] at e1
  cases e1
  exact ⟨_, List.getElem?_eq_getElem hi, e2.mono e⟩
theorem yld_list {B : Bd} {Oc Om : List Addr} {H : Hp} {a : Addr} {ds : List D} {vs : List V} (h : fz H Oc Om a = some (.lst vs)) (r : RepL B (fz H Oc Om) ds vs) : Yld B (Itl B.K a) Oc Om H ds := by
  refine ⟨_, (r.length ▸ walk_list (xs := vs)).mono (fun H' e => SqL.of (e _ _ h)) (fun i H' x H'' _ _ y => y), fun i H' x H'' hi e y => ?_⟩
  obtain ⟨rfl, y⟩ := y
  exact ⟨Same.refl _, fun Oc' Om' _ e' => rep_at r e' y⟩
theorem yld_tup {B : Bd} {Oc Om : List Addr} {H : Hp} {a : Addr} {ds : List D} {vs : List V} (h : SqT B.K (fz H Oc Om) a vs) (r : RepL B (fz H Oc Om) ds vs) : Yld B (Itt B.K a) Oc Om H ds := by
  refine ⟨_, (r.length ▸ walk_tup (xs := vs)).mono (fun H' e => Same.seqT e h) (fun i H' x H'' _ _ y => y), fun i H' x H'' hi e y => ?_⟩
  obtain ⟨rfl, y⟩ := y
  exact ⟨Same.refl _, fun Oc' Om' _ e' => rep_at r e' y⟩
theorem yld_src {B : Bd} {Oc Om : List Addr} {H : Hp} {a : Addr} {ns : List Int} (h : SqL B.K (fz H Oc Om) a (ns.map V.int)) : Yld B (Itl B.K a) Oc Om H (ns.map D.int) := by
  have hl : (ns.map V.int).length = (ns.map D.int).length := by simp
  refine ⟨_, (hl ▸ walk_list (xs := ns.map V.int)).mono (fun H' e => e.seq h) (fun i H' x H'' _ _ y => y), fun i H' x H'' hi e y => ?_⟩
  obtain ⟨rfl, y⟩ := y
  exact ⟨Same.refl _, fun Oc' Om' _ e' => rep_at (repl_ints ns) e' y⟩
theorem yld_str {B : Bd} {Oc Om : List Addr} {H : Hp} {z : Str} : Yld B (Its z) Oc Om H (z.cps.toList.map fun c => D.str ⟨#[c]⟩) := by
  have hl : z.cps.size = (z.cps.toList.map fun c => D.str ⟨#[c]⟩).length := by simp
  refine ⟨_, (hl ▸ walk_str (z := z)).mono (fun H' e => trivial) (fun i H' x H'' _ _ y => y), fun i H' x H'' hi e y => ?_⟩
  obtain ⟨rfl, c, y, rfl⟩ := y
  refine ⟨Same.refl _, fun Oc' Om' _ e' => ⟨D.str ⟨#[c]⟩, ?_, rfl⟩⟩
  rw [List.getElem?_map]
  have y' : z.cps.toList[i]? = some c := by simpa using y
  rw [y'] <;> rfl
/-- a value as what is walked -/
def itemsOf : D → R (List D)
  | .lst ds => .ok ds
  | .tup ds => .ok ds
  | .src ns => .ok (ns.map .int)
  | .str z => .ok (z.cps.toList.map fun c => .str ⟨#[c]⟩)
  | _ => .stuck
def iSeq (f : DE) : Sd → R (List D) := fun σ => f σ >>= itemsOf
theorem tI_seq {Oc Om : List Addr} {σd : Sd} {σ : L2.St} {H : Hp} {f : DE} {k : D → R (List D)} {Q : It → Hp → Prop} {Q1 : VK} (s : SR (bdOf X) Oc Om σd σ H)
    (h : (f σd >>= k).post (fun ds => ∀ J H', Same H H' → Yld (bdOf X) J Oc Om H' ds → Q J H') (exE (bdOf X) W σ H))
    (hk : ∀ d v H1, Same H H1 → Rep (bdOf X) (fz H1 Oc Om) d v → SR (bdOf X) Oc Om σd σ H1 → (k d).post (fun ds => ∀ J H', Same H1 H' → Yld (bdOf X) J Oc Om H' ds → Q J H') (exE (bdOf X) W σ H1) → Q1 v H1) : tD (bdOf X) W f σ H Q1 :=
  tD_seq s h fun d v H1 e1 r s1 h1 => hk d v H1 e1 r s1 (R.post_imp h1 (fun _ _ p J H' e' y => p J H' (e1.trans e') y) fun _ _ q => q)
theorem id_seq (he : ED X W e f) : ID X W tg e (iSeq f) :=
  pi_imp (pi_or (pi_list he) (pi_or (pi_tup he) (pi_str he))) fun σ H Q ⟨Oc, Om, σd, s, h⟩ => by
    cases q : f σd with
    | stuck => unfold iSeq at h; rw [q] at h; exact h.elim
    | exc c =>
      unfold iSeq at h
      rw [q] at h
      exact .inl ⟨Oc, Om, σd, s, by rw [q]; exact h⟩
    | ok d =>
      unfold iSeq at h
      have h' := h
      rw [q] at h
      cases d with
      | lst ds =>
        refine .inl ⟨Oc, Om, σd, s, ?_⟩
        rw [q]
        intro v H1 e1 r
        obtain ⟨a, vs, rfl, h1, h2⟩ := (show ∃ a vs, v = .ref a ∧ _ = some (HO.lst vs) ∧ RepL _ _ ds vs by unfold Rep at r; exact r)
        exact ⟨a, rfl, ⟨vs, SqL.of (fz_sub h1)⟩, h _ H1 e1 (yld_list h1 h2)⟩
      | tup ds =>
        refine .inr (.inl ⟨Oc, Om, σd, s, ?_⟩)
        rw [q]
        intro v H1 e1 r
        obtain ⟨a, vs, rfl, h1, h2⟩ := (rep_sq r)
        exact ⟨a, rfl, ⟨vs, Same.seqT minus_sub h1⟩, h _ H1 e1 (yld_tup h1 h2)⟩
      | src ns =>
        refine .inl ⟨Oc, Om, σd, s, ?_⟩
        rw [q]
        intro v H1 e1 r
        obtain ⟨a, rfl, h1⟩ := (show ∃ a, v = .ref a ∧ SqL X.K _ a (ns.map V.int) by unfold Rep at r; exact r)
        exact ⟨a, rfl, ⟨_, minus_sub.seq h1⟩, h _ H1 e1 (yld_src h1)⟩
      | str z =>
        refine .inr (.inr ⟨Oc, Om, σd, s, ?_⟩)
        rw [q]
        intro v H1 e1 r
        cases r
        exact ⟨z, rfl, h _ H1 e1 yld_str⟩
      | _ => exact h.elim
/-! ranges -/
def rangeD (lo : Int) (n : Nat) : List D := (List.range n).map fun (i : Nat) => D.int (lo + (i : Int))
theorem yld_range {B : Bd} {Oc Om : List Addr} {H : Hp} {lo : Int} {n : Nat} : Yld B (Itr lo n) Oc Om H (rangeD lo n) := by
  have hl : (rangeD lo n).length = n := by simp [rangeD]
  refine ⟨YFn fun i => .int (lo + (i : Int)), by
    rw [hl]
    exact (walk_range (lo := lo) (n := n)).mono (fun H' e => trivial) (fun i H' x H'' _ _ y => y), fun i H' x H'' hi e y => ?_⟩
  obtain ⟨rfl, rfl⟩ := y
  refine ⟨Same.refl _, fun Oc' Om' _ e' => ⟨D.int (lo + (i : Int)), ?_, rfl⟩⟩
  have hi' : i < n := by omega
  simp [rangeD, hi']
def iRange1 (fa : DE) : Sd → R (List D) := fun σ => fa σ >>= fun x => match x with
  | .int j => if j.natAbs < 4611686018427387904 then .ok (rangeD 0 j.toNat) else .stuck
  | _ => .stuck
def iRange2 (fa fb : DE) : Sd → R (List D) := fun σ => fa σ >>= fun x => fb σ >>= fun y => match x, y with
  | .int i, .int j => if i.natAbs < 4611686018427387904 ∧ j.natAbs < 4611686018427387904 then .ok (rangeD i (j - i).toNat) else .stuck
  | _, _ => .stuck
theorem id_range1 {p : Pos} (hg : Gl X "range") (hm : X.mg "range" = none) (ha : ED X W a fa) (hs : starEach [a] X.env = [(false, eval a X.env)] := by rfl) : ID X W tg (.Call (.Name "range" p) [a] [] pos) (iRange1 fa) :=
  pi_imp (pi_range1 hg hm (pa_cons ha pa_nil hs) hs) fun σ H Q ⟨Oc, Om, σd, s, h⟩ => tI_seq s h fun x u H1 e1 r s1 h1 => by
    cases x <;> first | exact h1.elim | skip
    cases r
    simp only at h1
    split at h1
    · rename_i q
      exact ⟨_, rfl, by omega, by omega, h1 _ H1 (Same.refl _) yld_range⟩
    · exact h1.elim
theorem id_range2 {p : Pos} (hg : Gl X "range") (hm : X.mg "range" = none) (ha : ED X W a fa) (hb : ED X W b fb) (hs : starEach [a, b] X.env = [(false, eval a X.env), (false, eval b X.env)] := by rfl) (hs2 : starEach [b] X.env = [(false, eval b X.env)] := by rfl)
    (hs3 : starEach (a :: [b]) X.env = (false, eval a X.env) :: starEach [b] X.env := by rfl) : ID X W tg (.Call (.Name "range" p) [a, b] [] pos) (iRange2 fa fb) :=
  pi_imp (pi_range2 hg hm (pa_cons ha (pa_cons hb pa_nil hs2) hs3) hs hs2) fun σ H Q ⟨Oc, Om, σd, s, h⟩ => tI_seq s h fun x u H1 e1 r s1 h1 => tI_seq s1 h1 fun y v H2 e2 r2 s2 h2 => by
    cases x <;> cases y <;> first | exact h2.elim | skip
    cases r
    cases r2
    simp only at h2
    split at h2
    · rename_i q
      exact ⟨_, _, rfl, by omega, h2 _ H2 (Same.refl _) yld_range⟩
    · exact h2.elim
end
end FF
set_option maxHeartbeats 4000000
/-! loops, comprehensions, defs and their calls -/
namespace FF
open PySem PySem.Spec PyProof.Rows L2
section
variable {X : Cx} {W : WX} {e tg iter : Expr} {f : DE} {pos : Pos} {t : Tgt} {body : List Stmt} {g : DS} {fi : Sd → R (List D)}
/-! ### for -/
/-- behind a turn: k the next one -/
def loopK (cl : List Nat) (k : Sd → Out) : Out → Out
  | .next σ => k σ
  | .cont σ => k σ
  | .brk σ => .next (clr cl σ)
  | o => o
def R.run (r : R Sd) (k : Sd → Out) : Out := match r with
  | .ok σ => k σ
  | _ => .stuck
/-- one turn after the other; at each turn's head and behind the loop the names of cl are forgotten -/
def forD (cl : List Nat) (t : Tgt) (g : DS) : List D → Sd → Out
  | [], σ => .next (clr cl σ)
  | d :: ds, σ => (t.put d (clr cl σ)).run fun σ1 => loopK cl (forD cl t g ds) (g σ1)
def sFor (cl : List Nat) (t : Tgt) (fi : Sd → R (List D)) (g : DS) : DS := fun σ => (fi σ).toOut σ fun ds => forD cl t g ds σ
theorem Yld.mono {B : Bd} {J : It} {Oc Om Om' : List Addr} {H H' : Hp} {ds : List D} (y : Yld B J Oc Om H ds) (x : Ext Om H Om' H') : Same (fz H Oc Om) (fz H' Oc Om') := x.frz
theorem ext_sub {Oc Om Om' : List Addr} {H H' : Hp} (x : Ext Om H Om' H') : Same (fz H Oc Om) H' := fun a o h => minus_sub _ _ (x.frz (Oc := Oc) a o h)
theorem sd_for (cl : List Nat) (hp : PassesOwn (model X.prog X.w) X.A X.env X.xe) (hc : X.calm = true) (hi : ID X W tg iter fi) (hg : PG X tg (t.g X.K)) (hb : SDs X W body g)
    (hs : ∀ x, foldedSetIterable iter X.env x = pure x := by intro _; rfl) : SD X W (.For tg iter body [] pos) (sFor cl t fi g) :=
  ps_imp (ps_for hp hc hi hg hb hs) fun Dn σ H ⟨Oc, Om, σd, s, h⟩ => by
    refine ⟨Oc, Om, σd, s, ?_⟩
    unfold sFor at h
    cases q : fi σd with
    | stuck => rw [q] at h; exact h
    | exc c =>
      rw [q] at h
      exact fun C H' hc e => h C σ Om H' hc (s.same e) (.of_same e)
    | ok ds =>
      rw [q] at h
      intro J H1 e1 y
      have h1 : (forD cl t g ds σd).all (bdOf X) W Oc Om H1 Dn := Out.all_ext (.of_same e1) h
      have s1 := s.same e1
      obtain ⟨Y, w, wy⟩ := y.w
      refine for_it w (fun i σ' H' => ∃ Om' σd', SR (bdOf X) Oc Om' σd' σ' H' ∧ Ext Om H1 Om' H' ∧ (forD cl t g (ds.drop i) σd').all (bdOf X) W Oc Om' H' Dn) ⟨Om, σd, s1, .refl, by simpa using h1⟩ (fun i σ' H' _ ⟨Om', σd', _, x, _⟩ => ext_sub x) ?_ ?_
      · intro i x σ' H' H'' hi ⟨Om', σd', s', x', p⟩ yy
        obtain ⟨e2, wz⟩ := wy i H' x H'' hi (ext_sub x') yy
        obtain ⟨d, hd, r⟩ := wz Oc Om' s'.1 x'.frz
        have e3 : ds.drop i = d :: ds.drop (i + 1) := by
          obtain ⟨h1, h2⟩ := List.getElem?_eq_some_iff.mp hd
          rw [List.drop_eq_getElem_cons h1, h2]
        rw [e3] at p
        unfold forD at p
        have s2 := (s'.same e2).clr (is := cl)
        have x2 : Ext Om H1 Om' H'' := x'.trans (.of_same e2)
        cases q2 : t.put d (clr cl σd') with
        | stuck => rw [q2] at p; exact p.elim
        | exc c => rw [q2] at p; exact p.elim
        | ok σ1 =>
          rw [q2] at p
          replace p : (loopK cl (forD cl t g (ds.drop (i + 1))) (g σ1)).all (bdOf X) W Oc Om' H' Dn := p
          refine Tgt.put_ok (B := bdOf X) t s2 r q2 fun σ2 s3 _ => ⟨Oc, Om', σ1, s3, ?_⟩
          have p' := Out.all_ext (.of_same e2 : Ext Om' H' Om' H'') p
          cases q3 : g σ1 with
          | stuck => rw [q3] at p'; exact p'.elim
          | next σ4 =>
            rw [q3] at p'
            exact fun σ5 Om5 H5 s5 x5 => ⟨Om5, σ4, s5, x2.trans x5, Out.all_ext x5 p'⟩
          | cont σ4 =>
            rw [q3] at p'
            exact fun σ5 Om5 H5 s5 x5 => ⟨Om5, σ4, s5, x2.trans x5, Out.all_ext x5 p'⟩
          | brk σ4 =>
            rw [q3] at p'
            exact fun σ5 Om5 H5 s5 x5 => p' σ5 Om5 H5 s5.clr x5
          | ret d' σ4 => rw [q3] at p'; exact p'
          | exc c σ4 => rw [q3] at p'; exact p'
      · intro σ' H' ⟨Om', σd', s', x', p⟩
        rw [List.drop_length] at p
        exact p σ' Om' H' s'.clr .refl
/-! ### while: at most n turns -/
def whileD (cl : List Nat) (c : Sd → R Bool) (g : DS) : Nat → Sd → Out
  | 0, _ => .stuck
  | n + 1, σ => (c (clr cl σ)).toOut (clr cl σ) fun b => if b = true then loopK [] (whileD cl c g n) (g (clr cl σ)) else .next (clr cl σ)
theorem sd_while (cl : List Nat) (n : Nat) {c : Expr} {fc : Sd → R Bool} (hp : PassesOwn (model X.prog X.w) X.A X.env X.xe) (hc : TD X W c fc) (hb : SDs X W body g) : SD X W (.While c body [] pos) (whileD cl fc g n) :=
  ps_imp (ps_while hp hc hb) fun Dn σ H ⟨Oc, Om, σd, s, h⟩ => by
    refine ⟨fun m σ' H' => ∃ Om' σd', SR (bdOf X) Oc Om' σd' σ' H' ∧ (whileD cl fc g m σd').all (bdOf X) W Oc Om' H' Dn, ⟨n, Om, σd, s, h⟩, ?_⟩
    rintro m σ' H' ⟨Om', σd', s', p⟩
    cases m with
    | zero => exact p.elim
    | succ m =>
      unfold whileD at p
      refine toOut_seqT s'.clr p fun b H1 e1 s1 h1 => ?_
      cases b with
      | false => exact iteF (h1 σ' Om' H1 s1 .refl)
      | true =>
        refine iteT ⟨fun σ5 H5 => ∃ m', m' < m + 1 ∧ ∃ Om5 σd5, SR (bdOf X) Oc Om5 σd5 σ5 H5 ∧ (whileD cl fc g m' σd5).all (bdOf X) W Oc Om5 H5 Dn, fun _ _ z => z, ⟨Oc, Om', _, s1, ?_⟩⟩
        replace h1 : (loopK [] (whileD cl fc g m) (g (clr cl σd'))).all (bdOf X) W Oc Om' H1 Dn := h1
        cases q3 : g (clr cl σd') with
        | stuck => rw [q3] at h1; exact h1.elim
        | next σ4 =>
          rw [q3] at h1
          exact fun σ5 Om5 H5 s5 x5 => ⟨m, Nat.lt_succ_self _, Om5, σ4, s5, Out.all_ext x5 h1⟩
        | cont σ4 =>
          rw [q3] at h1
          exact fun σ5 Om5 H5 s5 x5 => ⟨m, Nat.lt_succ_self _, Om5, σ4, s5, Out.all_ext x5 h1⟩
        | brk σ4 =>
          rw [q3] at h1
          exact fun σ5 Om5 H5 s5 x5 => h1 σ5 Om5 H5 s5 x5
        | ret d' σ4 => rw [q3] at h1; exact h1
        | exc c σ4 => rw [q3] at h1; exact h1
/-! ### [e for t in it if c] -/
def clrO : List Nat → Sd → Sd
  | [], σ => σ
  | v :: vs, σ => (clrO vs σ).set v none
theorem SR.wipe {B : Bd} {Oc Om : List Addr} {σd : Sd} {σ : L2.St} {H : Hp} (s : SR B Oc Om σd σ H) : ∀ vs : List Nat, SR B Oc Om (clrO vs σd) (wipe σ vs) H
  | [] => s
  | v :: vs => (SR.wipe s vs).drop
/-- a test's answer, an element's: what they raise is none of ours -/
def R.yn {α : Type} (r : R Bool) (a b : R α) : R α := match r with
  | .ok true => a
  | .ok false => b
  | _ => .stuck
def R.then {α β : Type} (r : R α) (k : α → R β) : R β := match r with
  | .ok y => k y
  | _ => .stuck
/-- raises nothing -/
def lcD (own : List Nat) (t : Tgt) (tt : Sd → R Bool) (te : DE) (σ : Sd) : List D → R (List D)
  | [] => .ok []
  | d :: ds => (t.put d (clrO own σ)).then fun σ1 => (tt σ1).yn ((te σ1).then fun y => (lcD own t tt te σ ds).then fun ys => .ok (y :: ys)) (lcD own t tt te σ ds)
def lcAll (own : List Nat) (t : Tgt) (tt : Sd → R Bool) (te : DE) (fi : Sd → R (List D)) : Sd → R (List D) := fun σ => fi σ >>= fun ds => (lcD own t tt te σ ds).quiet >>= fun ys => if ys.length ≤ sizeLine then .ok ys else .stuck
def eLc (own : List Nat) (t : Tgt) (tt : Sd → R Bool) (te : DE) (fi : Sd → R (List D)) : DE := fun σ => lcAll own t tt te fi σ >>= fun ys => .ok (.lst ys)
def W0 : WX := fun _ _ _ _ => False
abbrev ID0 (X : Cx) (ifs : List Expr) (t : Sd → R Bool) : Prop := PTs X ifs (tDT (bdOf X) W0 t)
def tYesD : Sd → R Bool := fun _ => .ok true
theorem pts_imp {ifs : List Expr} {t t' : TT} (h : PTs X ifs t) (i : ∀ σ H Q, t' σ H Q → t σ H Q) : PTs X ifs t' := ⟨fun pins s σ H Q I q => h.run pins s σ H Q I (i σ H Q q)⟩
theorem id0_nil : ID0 X [] tYesD := pts_imp pts_nil fun σ H Q ⟨Oc, Om, σd, s, h⟩ => h H (Same.refl _)
theorem id0_one {c : Expr} {t : Sd → R Bool} (h : TD X W0 c t) : ID0 X [c] t := pts_one h
theorem fz_temp {H : Hp} {O : List Addr} {p : Addr} (hp : H p = none) (o : HO) : minus (upd H p o) (p :: O) = minus H O := by
  funext b
  unfold minus
  by_cases hb : b = p
  · subst hb
    simp [hp]
  · simp [hb, upd_ne hb]
theorem SR.temp {B : Bd} {Oc Om : List Addr} {σd : Sd} {σ : L2.St} {H : Hp} {p : Addr} {o : HO} (s : SR B Oc Om σd σ H) (hp : H p = none) : SR B (p :: Oc) Om σd σ (upd H p o) := by
  obtain ⟨h1, fp, h2, h3, h4⟩ := s
  refine ⟨fun a ha => ?_, fp, ?_, h3, fun a ha => ⟨(h4 a ha).1, fun z => ?_⟩⟩
  · by_cases e : a = p
    · subst e; rw [upd_same]; exact fun z => nomatch z
    · rw [upd_ne e]
      refine h1 a ?_
      simpa [e] using ha
  rotate_left
  · rcases List.mem_cons.mp z with z | z
    · exact h1 a (by simp [(h4 a ha).1]) (by rw [z]; exact hp)
    · exact (h4 a ha).2 z
  · have e : minus (upd H p o) (p :: Oc ++ Om) = minus H (Oc ++ Om) := fz_temp hp o
    rw [e]
    exact SlotsR.keep (Same.refl _) (fun a _ u q => same_upd hp a u q) h2
/-- a protected object is written -/
theorem SR.tempW {B : Bd} {Oc Om : List Addr} {σd : Sd} {σ : L2.St} {H : Hp} {p : Addr} {o : HO} (s : SR B (p :: Oc) Om σd σ H) (hp : p ∉ Om) : SR B (p :: Oc) Om σd σ (upd H p o) := by
  obtain ⟨h1, fp, h2, h3, h4⟩ := s
  refine ⟨fun a ha => ?_, fp, ?_, h3, h4⟩
  · by_cases e : a = p
    · subst e; rw [upd_same]; exact fun z => nomatch z
    · rw [upd_ne e]; exact h1 a ha
  · have e : minus (upd H p o) (p :: Oc ++ Om) = minus H (p :: Oc ++ Om) := by
      funext b
      unfold minus
      by_cases hb : b = p
      · subst hb; simp
      · simp [hb, upd_ne hb]
    rw [e]
    exact SlotsR.keep (Same.refl _) (fun a ha u q => by rw [upd_ne (fun (z : a = p) => hp (by rw [← z]; exact (h4 a ha).1))]; exact q) h2
theorem SR.untemp {B : Bd} {Oc Om : List Addr} {σd : Sd} {σ : L2.St} {H : Hp} {p : Addr} (s : SR B (p :: Oc) Om σd σ H) : SR B Oc Om σd σ H := by
  obtain ⟨h1, fp, h2, h3, h4⟩ := s
  exact ⟨fun a ha => h1 a (by simp at ha ⊢; exact .inr ha), fp, SlotsR.keep (fun a o h => by
    obtain ⟨k1, k2⟩ := minus_some.mp h
    exact minus_some.mpr ⟨fun z => k1 (by simp at z ⊢; exact .inr z), k2⟩) (fun _ _ _ q => q) h2, h3, fun a ha => ⟨(h4 a ha).1, fun z => (h4 a ha).2 (by simp [z])⟩⟩
theorem SR.ndO {B : Bd} {Oc Om : List Addr} {σd : Sd} {σ : L2.St} {H : Hp} {p : Addr} (s : SR B Oc Om σd σ H) (hp : H p = none) : p ∉ Oc ++ Om := fun z => s.1 p z hp
theorem wipe_sub {σ : L2.St} {own : List Nat} : ∀ ws : List Nat, (∀ i ∈ ws, i ∈ own) → wipe (wipe σ ws) own = wipe σ own
  | [], _ => rfl
  | w :: ws, h => by
    show wipe ((wipe σ ws).set w none) own = _
    rw [wipe_set (h w (by simp)), wipe_sub ws fun i hi => h i (by simp [hi])]
theorem wipe_idem {σ : L2.St} {own : List Nat} : wipe (wipe σ own) own = wipe σ own := wipe_sub own fun _ h => h
/-- the comprehension's reading, its list at D fresh -/
theorem lc_read {own : List Nat} {t : Tgt} {tt : Sd → R Bool} {te : DE} {fi : Sd → R (List D)} (hw : ∀ i ∈ t.slots, i ∈ own) {Oc Om : List Addr} {σd : Sd} {σ : L2.St} {H : Hp} {Q : VK} {β : Type} {k : List D → R β} {P : β → Prop}
    (s : SR (bdOf X) Oc Om σd σ H) (h : (lcAll own t tt te fi σd >>= k).post P (exE (bdOf X) W σ H))
    (hk : ∀ ys p vs H', Same H H' → H p = none → H' p = some (.lst vs) → RepL (bdOf X) (minus H' (p :: (Oc ++ Om))) ys vs → ys.length ≤ sizeLine → (k ys).post P (exE (bdOf X) W σ H') → Q (.ref p) H') :
    tLc (tI (bdOf X) W fi) (t.g X.K) (tDT (bdOf X) W0 tt) (tD (bdOf X) W0 te) own σ H Q := by
  refine ⟨Oc, Om, σd, s, ?_⟩
  cases q : fi σd with
  | stuck => unfold lcAll at h; rw [q] at h; exact h
  | exc c =>
    unfold lcAll at h
    rw [q] at h
    exact h
  | ok ds =>
    unfold lcAll at h
    rw [q] at h
    intro J H1 e1 y
    intro D hD
    replace h : (((lcD own t tt te σd ds).quiet >>= fun ys => if ys.length ≤ sizeLine then R.ok ys else .stuck) >>= k).post P (exE (bdOf X) W σ H) := h
    cases q2 : lcD own t tt te σd ds with
    | stuck => rw [q2] at h; exact h.elim
    | exc c => rw [q2] at h; exact h.elim
    | ok ys =>
      rw [q2] at h
      replace h : ((if ys.length ≤ sizeLine then R.ok ys else .stuck) >>= k).post P (exE (bdOf X) W σ H) := h
      by_cases hz : ys.length ≤ sizeLine
      case neg => rw [if_neg hz] at h; exact h.elim
      rw [if_pos hz] at h
      replace h : (k ys).post P (exE (bdOf X) W σ H) := h
      obtain ⟨Y, w, wy⟩ := y.w
      have s1 := s.same e1
      have hDO := s1.ndO hD
      have base : SR (bdOf X) (D :: Oc) Om (clrO own σd) (wipe σ own) (upd H1 D (.lst [])) := (s1.temp hD).wipe own
      have fzE : minus (upd H1 D (.lst [])) (D :: (Oc ++ Om)) = fz H1 Oc Om := fz_temp hD _
      refine lc_it w (fun i H' => ∃ acc vs zs, H' D = some (.lst vs) ∧ SR (bdOf X) (D :: Oc) Om (clrO own σd) (wipe σ own) H' ∧ (∀ b o, b ≠ D → H1 b = some o → H' b = some o) ∧ RepL (bdOf X) (minus H' (D :: (Oc ++ Om))) acc vs ∧
          lcD own t tt te σd (ds.drop i) = .ok zs ∧ ys = acc ++ zs) ?_ ?_ ?_ ?_
      · exact ⟨[], [], ys, upd_same, base, fun b o hb e => by rw [upd_ne hb]; exact e, .nil, by simpa using q2, by simp⟩
      · intro i H' _ ⟨acc, vs, zs, _, _, k1, _⟩ a o ha
        obtain ⟨a1, a2⟩ := minus_some.mp ha
        exact k1 a o (fun z => by rw [z, hD] at a2; cases a2) a2
      · intro i x H' H'' hi ⟨acc, vs, zs, hvs, s', k1, rr, ql, qe⟩ yy
        have sub : Same (fz H1 Oc Om) H' := fun a o ha => by
          obtain ⟨a1, a2⟩ := minus_some.mp ha
          exact k1 a o (fun z => by rw [z, hD] at a2; cases a2) a2
        obtain ⟨e2, wz⟩ := wy i H' x H'' hi sub yy
        have sub2 : Same (fz H1 Oc Om) (fz H' (D :: Oc) Om) := fun a o ha => by
          obtain ⟨a1, a2⟩ := minus_some.mp ha
          have ne : a ≠ D := fun z => by rw [z, hD] at a2; cases a2
          exact minus_some.mpr ⟨by simpa [ne] using a1, k1 a o ne a2⟩
        obtain ⟨d, hd, r⟩ := wz (D :: Oc) Om s'.1 sub2
        have e3 : ds.drop i = d :: ds.drop (i + 1) := by
          obtain ⟨h1, h2⟩ := List.getElem?_eq_some_iff.mp hd
          rw [List.drop_eq_getElem_cons h1, h2]
        rw [e3] at ql
        unfold lcD at ql
        cases q3 : t.put d (clrO own σd) with
        | stuck => rw [q3] at ql; cases ql
        | exc c => rw [q3] at ql; cases ql
        | ok σ1 =>
          rw [q3] at ql
          refine Tgt.put_ok (B := bdOf X) t (s'.same e2) r q3 fun σ2 s3 hw2 => ⟨(hw2 own hw).trans wipe_idem, ?_⟩
          refine ⟨D :: Oc, Om, σ1, s3, ?_⟩
          have k2 : ∀ b o, b ≠ D → H1 b = some o → H'' b = some o := fun b o hb e => e2 _ _ (k1 b o hb e)
          have subR : Same (minus H' (D :: (Oc ++ Om))) (minus H'' (D :: (Oc ++ Om))) := same_minus e2
          replace ql : (tt σ1).yn ((te σ1).then fun y => (lcD own t tt te σd (ds.drop (i + 1))).then fun ys => .ok (y :: ys)) (lcD own t tt te σd (ds.drop (i + 1))) = R.ok zs := ql
          cases q4 : tt σ1 with
          | stuck => rw [q4] at ql; cases ql
          | exc c => rw [q4] at ql; cases ql
          | ok b =>
            rw [q4] at ql
            intro H3 e3
            have s4 := s3.same e3
            cases b with
            | false =>
              refine iteF ⟨acc, vs, zs, e3 _ _ (e2 _ _ hvs), ?_, fun b o hb e => e3 _ _ (k2 b o hb e), (rr.mono subR).mono (same_minus e3), ql, qe⟩
              exact (s'.same e2).same e3
            | true =>
              replace ql : ((te σ1).then fun y => (lcD own t tt te σd (ds.drop (i + 1))).then fun ys => R.ok (y :: ys)) = R.ok zs := ql
              refine iteT ⟨D :: Oc, Om, σ1, s4, ?_⟩
              cases q5 : te σ1 with
              | stuck => rw [q5] at ql; cases ql
              | exc c => rw [q5] at ql; cases ql
              | ok yv =>
                rw [q5] at ql
                replace ql : ((lcD own t tt te σd (ds.drop (i + 1))).then fun ys => R.ok (yv :: ys)) = R.ok zs := ql
                intro v H4 e4 rv
                cases q6 : lcD own t tt te σd (ds.drop (i + 1)) with
                | stuck => rw [q6] at ql; cases ql
                | exc c => rw [q6] at ql; cases ql
                | ok ws =>
                  rw [q6] at ql
                  replace ql : R.ok (yv :: ws) = R.ok zs := ql
                  cases ql
                  have hv4 : H4 D = some (.lst vs) := e4 _ _ (e3 _ _ (e2 _ _ hvs))
                  have rr4 : RepL (bdOf X) (minus H4 (D :: (Oc ++ Om))) acc vs := (((rr.mono subR).mono (same_minus e3)).mono (same_minus e4))
                  have lz : acc.length < ys.length := by rw [qe, List.length_append]; simp
                  have nD : D ∉ Om := fun z => hDO (by simp [z])
                  have fz5 : minus (upd H4 D (.lst (vs ++ [v]))) (D :: (Oc ++ Om)) = minus H4 (D :: (Oc ++ Om)) := by
                    funext b
                    unfold minus
                    by_cases hb : b = D
                    · subst hb; simp
                    · simp [hb, upd_ne hb]
                  refine ⟨vs, hv4, by rw [rr4.length]; omega, acc ++ [yv], vs ++ [v], ws, upd_same, ?_, fun b o hb e => by rw [upd_ne hb]; exact e4 _ _ (e3 _ _ (k2 b o hb e)), ?_, rfl, by rw [qe, List.append_assoc] <;> rfl⟩
                  · exact (((s'.same e2).same e3).same e4).tempW nD
                  · rw [fz5]
                    exact rr4.append (.cons rv .nil)
      · intro H' ⟨acc, vs, zs, hvs, s', k1, rr, ql, qe⟩
        rw [List.drop_length] at ql
        cases ql
        rw [List.append_nil] at qe
        subst qe
        have sm : Same H H' := fun b o e => k1 b o (fun z => by rw [z] at e; rw [e1 _ _ e] at hD; cases hD) (e1 _ _ e)
        refine hk ys D vs H' sm ?_ hvs rr hz (R.post_imp h (fun _ _ p => p) fun c _ z => z.mono sm)
        cases z : H D with
        | none => rfl
        | some o => rw [e1 _ _ z] at hD; cases hD
theorem lc_frz {B : Bd} {Oc Om : List Addr} {H : Hp} {p : Addr} {vs : List V} {ys : List D} (s : ∀ a ∈ Oc ++ Om, a ≠ p) (h : H p = some (.lst vs)) (r : RepL B (minus H (p :: (Oc ++ Om))) ys vs) : Rep B (fz H Oc Om) (.lst ys) (.ref p) := by
  unfold Rep
  refine ⟨p, vs, rfl, minus_some.mpr ⟨fun z => s p z rfl, h⟩, r.mono fun a o ha => ?_⟩
  obtain ⟨a1, a2⟩ := minus_some.mp ha
  exact minus_some.mpr ⟨fun z => a1 (by simp at z ⊢; exact .inr z), a2⟩
variable {elt : Expr} {ifs : List Expr} {scope : Scope} {own : List (Str × Nat)} {tt : Sd → R Bool} {te : DE}
theorem ed_lc (t : Tgt) (hc : X.calm = true) (hN : X.N.Nodup) (hi : ID X W tg iter fi) (ok : BlkOk X.N X.env.scope scope own) (hw : ∀ i ∈ t.slots, i ∈ own.map (·.2))
    (hg : ∀ (s : Shared) (H : Hp) (C : Addr) (cl : List (Str × Addr)) (fp : List Addr), PG (X.blk s H scope (compEnvC scope cl C X.env) fp) tg (t.g X.K)) (ht : ∀ (s : Shared) (H : Hp) (C : Addr) (cl : List (Str × Addr)) (fp : List Addr), ID0 (X.blk s H scope (compEnvC scope cl C X.env) fp) ifs tt)
    (he : ∀ (s : Shared) (H : Hp) (C : Addr) (cl : List (Str × Addr)) (fp : List Addr), ED (X.blk s H scope (compEnvC scope cl C X.env) fp) W0 elt te) (hs : ∀ x, foldedSetIterable iter X.env x = pure x := by intro _; rfl) :
    ED X W (.ListComp elt [⟨tg, iter, ifs, 0⟩] scope pos) (eLc (own.map (·.2)) t tt te fi) :=
  pe_imp (pe_lc hc hN hi ok hg ht he hs) fun σ H Q ⟨Oc, Om, σd, s, h⟩ => lc_read hw s h fun ys p vs H' e1 hp hv r hz h1 =>
    h1 _ H' e1 (lc_frz (fun a ha z => s.1 a ha (z ▸ hp)) hv r)
/-- y = [..] -/
theorem sd_lc (t : Tgt) {i : Nat} {y : Str} {py spos : Pos} (hc : X.calm = true) (hN : X.N.Nodup) (hy : X.N[i]? = some y) (hyl : X.env.scope.names.lookup y = some .local)
    (hsw : swapsWith (.ListComp elt [⟨tg, iter, ifs, 0⟩] scope pos) (some (.Name y py)) spos.line X.env = pure true) (hi : ID X W tg iter fi) (ok : BlkOk X.N X.env.scope scope own) (hw : ∀ i ∈ t.slots, i ∈ own.map (·.2))
    (hg : ∀ (s : Shared) (H : Hp) (C : Addr) (cl : List (Str × Addr)) (fp : List Addr), PG (X.blk s H scope (compEnvC scope cl C X.env) fp) tg (t.g X.K)) (ht : ∀ (s : Shared) (H : Hp) (C : Addr) (cl : List (Str × Addr)) (fp : List Addr), ID0 (X.blk s H scope (compEnvC scope cl C X.env) fp) ifs tt)
    (he : ∀ (s : Shared) (H : Hp) (C : Addr) (cl : List (Str × Addr)) (fp : List Addr), ED (X.blk s H scope (compEnvC scope cl C X.env) fp) W0 elt te) (hs : ∀ x, foldedSetIterable iter X.env x = pure x := by intro _; rfl) :
    SD X W (.Assign [.Name y py] (.ListComp elt [⟨tg, iter, ifs, 0⟩] scope pos) spos) (sSet i (eLc (own.map (·.2)) t tt te fi)) :=
  ps_imp (ps_setLc hc hN hy hyl hsw hi ok hg ht he hs) fun Dn σ H ⟨Oc, Om, σd, s, h⟩ => by
    cases q : lcAll (own.map (·.2)) t tt te fi σd with
    | stuck => unfold sSet eLc at h; rw [q] at h; exact h.elim
    | exc c =>
      unfold sSet eLc at h
      rw [q] at h
      refine lc_read (W := W) (tt := tt) (te := te) (P := fun _ : Unit => True) (k := fun _ => R.stuck) hw s ?_ (fun _ _ _ _ _ _ _ _ _ z => z.elim)
      rw [q]
      exact fun C H' hc e => h C σ Om H' hc (s.same e) (.of_same e)
    | ok ys =>
      unfold sSet eLc at h
      rw [q] at h
      replace h : (if i < σd.length then Out.next (σd.set i (some (.lst ys))) else .stuck).all (bdOf X) W Oc Om H Dn := h
      by_cases hl : i < σd.length
      case neg => rw [if_neg hl] at h; exact h.elim
      rw [if_pos hl] at h
      refine lc_read (W := W) (tt := tt) (te := te) (P := fun zs => zs = ys) (k := fun zs => R.ok zs) hw s ?_ (fun zs p vs H' e1 hp hv r hz pz => ?_)
      · rw [q]
        exact rfl
      · have e : zs = ys := pz
        subst e
        exact h _ Om H' ((s.same e1).setF' hl (lc_frz (fun a ha z => s.1 a ha (z ▸ hp)) hv r)) (.of_same e1)
end
end FF
set_option maxHeartbeats 4000000
/-! what one name owns; defs and calls; raise; isinstance -/
namespace FF
open PySem PySem.Spec PyProof.Rows L2
section
variable {B : Bd} {Oc Om : List Addr} {σd : Sd} {σ : L2.St} {H : Hp}
theorem Rep.of_minus {G : List Addr} {H : Hp} {O : List Addr} {d : D} {v : V} (h : Rep B (minus H (G ++ O)) d v) : Rep B (minus H O) d v := h.mono fun a o ha => by
  obtain ⟨a1, a2⟩ := minus_some.mp ha
  exact minus_some.mpr ⟨fun z => a1 (by simp [z]), a2⟩
theorem sub_minus {H : Hp} {O O' : List Addr} (h : ∀ a ∈ O', a ∈ O) : Same (minus H O) (minus H O') := fun a o ha => by
  obtain ⟨a1, a2⟩ := minus_some.mp ha
  exact minus_some.mpr ⟨fun z => a1 (h a z), a2⟩
/-- a list that was just laid at p is owned by slot i -/
theorem SR.setO {i : Nat} {p : Addr} {ds : List D} {vs : List V} (s : SR B Oc Om σd σ H) (hi : i < σd.length) (hH : H p = some (.lst vs)) (hp : p ∉ Oc ++ Om) (r : RepL B (minus H (p :: (Oc ++ Om))) ds vs)
    (hs : ∃ fp, SlotsR B (minus H (p :: (Oc ++ Om))) H σd σ fp ∧ fp.Nodup ∧ ∀ a ∈ fp, a ∈ Om ∧ a ∉ Oc) : SR B Oc (p :: Om) (σd.set i (some (.ol ds))) (σ.set i (some (.ref p))) H := by
  have em : minus H (p :: (Oc ++ Om)) = minus H (Oc ++ (p :: Om)) := by
    funext b
    unfold minus
    have : b ∈ p :: (Oc ++ Om) ↔ b ∈ Oc ++ (p :: Om) := by simp; constructor <;> (intro z; rcases z with z | z | z <;> simp [z])
    simp only [this]
  rw [em] at r hs
  have s' : SR B Oc Om σd σ H := s
  obtain ⟨fp, h2, h3, h4⟩ := hs
  have h1 := s.1
  obtain ⟨f1, f, f2, w, e1, _, _, e4⟩ := h2.focus (i := i) (d := σd[i]) (by simp [hi])
  subst e1
  have hpf : p ∉ f1 ++ (f ++ f2) := fun z => hp (by simp [(h4 p z).1])
  refine ⟨fun a ha => ?_, f1 ++ ([p] ++ f2), e4 _ H (some (.ol ds)) (some (.ref p)) [p] (Same.refl _) (fun _ _ _ q => q) ⟨_, rfl, ?_⟩, ?_, fun a ha => ?_⟩
  · rcases List.mem_append.mp ha with z | z
    · exact h1 a (by simp [z])
    · rcases List.mem_cons.mp z with z | z
      · rw [z, hH]; exact fun q => nomatch q
      · exact h1 a (by simp [z])
  · unfold OR
    exact ⟨p, vs, rfl, hH, rfl, r⟩
  · have nd : (f1 ++ f2).Nodup := List.Nodup.sublist (List.Sublist.append (List.Sublist.refl _) (by simp)) h3
    have q1 : p ∉ f1 := fun z => hpf (by simp [z])
    have q2 : p ∉ f2 := fun z => hpf (by simp [z])
    rw [List.nodup_append] at nd ⊢
    obtain ⟨n1, n2, n3⟩ := nd
    refine ⟨n1, by simp [q2, n2], fun a ha b hb => ?_⟩
    rcases List.mem_append.mp hb with z | z
    · have z' : b = p := by simpa using z
      rw [z']
      exact fun e => q1 (e ▸ ha)
    · exact n3 a ha b z
  · rcases List.mem_append.mp ha with z | z
    · exact ⟨by simp [(h4 a (by simp [z])).1], (h4 a (by simp [z])).2⟩
    · rcases List.mem_append.mp z with z | z
      · have z' : a = p := by simpa using z
        rw [z']
        exact ⟨by simp, fun q => hp (by simp [q])⟩
      · exact ⟨by simp [(h4 a (by simp [z])).1], (h4 a (by simp [z])).2⟩
/-- what stands behind the making of an object at a fresh p -/
theorem SR.fresh {H' : Hp} {p : Addr} (s : SR B Oc Om σd σ H) (e : Same H H') (hp : H p = none) : ∃ fp, SlotsR B (minus H' (p :: (Oc ++ Om))) H' σd σ fp ∧ fp.Nodup ∧ ∀ a ∈ fp, a ∈ Om ∧ a ∉ Oc := by
  obtain ⟨_, fp, h2, h3, h4⟩ := s
  refine ⟨fp, SlotsR.keep (fun a o ha => ?_) (fun a _ o q => e a o q) h2, h3, h4⟩
  obtain ⟨a1, a2⟩ := minus_some.mp ha
  refine minus_some.mpr ⟨fun z => ?_, e _ _ a2⟩
  rcases List.mem_cons.mp z with z | z
  · rw [z, hp] at a2; cases a2
  · exact a1 z
/-- an owned list, and how it may change -/
theorem SR.own {i : Nat} {ds : List D} (s : SR B Oc Om σd σ H) (hi : σd[i]? = some (some (.ol ds))) : ∃ p vs, σ[i]? = some (some (.ref p)) ∧ H p = some (.lst vs) ∧ p ∈ Om ∧ RepL B (fz H Oc Om) ds vs ∧
    ∀ ds' vs', RepL B (fz H Oc Om) ds' vs' → SR B Oc Om (σd.set i (some (.ol ds'))) σ (upd H p (.lst vs')) := by
  obtain ⟨h1, fp, h2, h3, h4⟩ := s
  obtain ⟨f1, f, f2, v, e1, e2, ⟨x, rfl, e3⟩, e4⟩ := h2.focus hi
  subst e1
  unfold OR at e3
  obtain ⟨p, vs, rfl, k1, rfl, k2⟩ := e3
  have pm : p ∈ Om := (h4 p (by simp)).1
  refine ⟨p, vs, e2, k1, pm, k2, fun ds' vs' r => ?_⟩
  have em : fz (upd H p (.lst vs')) Oc Om = fz H Oc Om := by
    funext b
    unfold fz minus
    by_cases hb : b = p
    · subst hb; simp [pm]
    · simp [upd_ne hb]
  have nd := h3
  rw [List.nodup_append] at nd
  obtain ⟨n1, n2, n3⟩ := nd
  have n4 : p ∉ f2 := by simp at n2; exact n2.1
  have n5 : p ∉ f1 := fun z => n3 p z p (by simp) rfl
  have q := e4 (fz (upd H p (.lst vs')) Oc Om) (upd H p (.lst vs')) (some (.ol ds')) (some (.ref p)) [p] (by rw [em]; exact Same.refl _) (fun a ha o z => by
    rw [upd_ne (fun e => by
      subst e
      rcases List.mem_append.mp ha with w | w
      · exact n5 w
      · exact n4 w)]
    exact z) ⟨.ref p, rfl, by
      unfold OR
      exact ⟨p, vs', rfl, upd_same, rfl, by rw [em]; exact r⟩⟩
  rw [set_self_opt e2] at q
  refine ⟨fun a ha => ?_, _, q, h3, h4⟩
  by_cases hb : a = p
  · subst hb; rw [upd_same]; exact fun z => nomatch z
  · rw [upd_ne hb]; exact h1 a ha
/-- an owned list is let go: it stands still from here on -/
theorem SR.freeze {i : Nat} {ds : List D} (s : SR B Oc Om σd σ H) (hi : σd[i]? = some (some (.ol ds))) : ∃ Om', SR B Oc Om' (σd.set i (some (.lst ds))) σ H ∧ ∀ a ∈ Om', a ∈ Om := by
  obtain ⟨h1, fp, h2, h3, h4⟩ := s
  obtain ⟨f1, f, f2, v, e1, e2, ⟨x, rfl, e3⟩, e4⟩ := h2.focus hi
  subst e1
  unfold OR at e3
  obtain ⟨p, vs, rfl, k1, rfl, k2⟩ := e3
  have pm := h4 p (by simp)
  have sub : Same (fz H Oc Om) (fz H Oc (Om.filter fun a => decide (a ≠ p))) := sub_minus fun a ha => by
    rcases List.mem_append.mp ha with z | z
    · simp [z]
    · simp [(List.mem_filter.mp z).1]
  have r : Rep B (fz H Oc (Om.filter fun a => decide (a ≠ p))) (.lst ds) (.ref p) := by
    unfold Rep
    refine ⟨p, vs, rfl, minus_some.mpr ⟨?_, k1⟩, k2.mono sub⟩
    rw [List.mem_append, not_or]
    exact ⟨pm.2, fun z => by simpa using (List.mem_filter.mp z).2⟩
  have nd := h3
  rw [List.nodup_append] at nd
  obtain ⟨n1, n2, n3⟩ := nd
  have n4 : p ∉ f2 := by simp at n2; exact n2.1
  have n5 : p ∉ f1 := fun z => n3 p z p (by simp) rfl
  have q := e4 _ H (some (.lst ds)) (some (.ref p)) [] sub (fun _ _ _ z => z) ⟨.ref p, rfl, (OR_frz rfl).mpr ⟨rfl, r⟩⟩
  rw [set_self_opt e2] at q
  refine ⟨Om.filter fun a => decide (a ≠ p), ⟨fun a ha => h1 a ?_, _, q, ?_, fun a ha => ?_⟩, fun a ha => (List.mem_filter.mp ha).1⟩
  · rcases List.mem_append.mp ha with z | z
    · simp [z]
    · simp [(List.mem_filter.mp z).1]
  · exact List.Nodup.sublist (List.Sublist.append (List.Sublist.refl _) (by simp)) h3
  · have hm : a ∈ f1 ∨ a ∈ f2 := by simpa using ha
    have hne : a ≠ p := fun e => by
      subst e
      rcases hm with z | z
      · exact n5 z
      · exact n4 z
    have hm' := h4 a (by rcases hm with z | z <;> simp [z])
    exact ⟨List.mem_filter.mpr ⟨hm'.1, by simpa using hne⟩, hm'.2⟩
end
end FF
set_option maxHeartbeats 4000000
/-! owned lists in statements; calls and defs; raise; isinstance -/
namespace FF
open PySem PySem.Spec PyProof.Rows L2
theorem ext_tuple (l : Addr) (items : Array Value) (n : Nat) (b : Addr) (ob : Obj) (items2 : Array Value) (n2 : Nat) (hcl : ob.cls = .type "tuple") (hda : ob.data = .seq items2 n2) (hs0 : ¬(!items.isEmpty && Builtin.List.listTooLong (items.size + items2.size)) = true) (hs1 : items.size ≤ sizeLine) (hs2 : items.size + items2.size ≤ sizeLine + 1) :
    Meets (Builtin.«list.extend» ⟨[.ref l, .ref b], []⟩) (fun _ R s => s.heap.get? l = some { cls := .type "list", dict := none, data := .seq items n, slots := #[] } ∧ s.heap.get? b = some ob ∧ R (.ok (.ret Value.none)) { s with heap := s.heap.update l (Obj.mapSeq fun x => x ++ items2), toks := s.toks }) := by
  obtain ⟨cl, dc, da, sl⟩ := ob
  cases hcl
  cases hda
  exact .of_wp fun prog w A R s h => by
    obtain ⟨hp, g, d, tk, os⟩ := s; obtain ⟨hl, hb, h⟩ := h
    have f2 := PySem.AutoSeq1.sub_tuple_tuple; have f3 := PySem.AutoSeq1.sub_list_list; have f4 := PySem.AutoSeq1.sub_tuple_list; have f5 := PySem.AutoSeq1.sub_list_tuple
    have hz' : (items ++ items2).size ≤ sizeLine + 1 := by rw [Array.size_append]; exact hs2
    wp_walk using (wpAny_updateSeq hl rfl (hz := hs1) (_hz' := hz')), wpAny_loadPart' hl, wpAny_loadPart' hb; exact ⟨_, rfl, h⟩
def rExtT (K : PySem.W.Frag) : V → List V → Hp → VK → Prop := fun x vs H Q => ∃ l b xs zs, x = .ref l ∧ vs = [.ref b] ∧ H l = some (.lst xs) ∧ SqT K H b zs ∧ xs.length + zs.length ≤ sizeLine ∧ Q .non (upd H l (.lst (xs ++ zs)))
theorem mt_extT {X : Cx} : MtM X "list.extend" (rExtT X.K) := by
  intro pins s σ H x vs v us Q I rx rv h
  obtain ⟨l, b, xs, zs, rfl, rfl, hH, hB, hz, q⟩ := h
  cases rx
  obtain ⟨u, rfl, ru⟩ := rv.one
  cases ru
  obtain ⟨z, its, n, r, hl, e⟩ := I.lstM hH
  obtain ⟨its2, r2, ⟨ob, e2, c2, n2, d2⟩, _⟩ := I.tuple hB
  have l1 := r.length
  have l2 := r2.length
  have hsz : its.toArray.size + its2.toArray.size ≤ sizeLine := by rw [List.size_toArray, List.size_toArray]; omega
  have hlong : ¬ (!its.toArray.isEmpty && Builtin.List.listTooLong (its.toArray.size + its2.toArray.size)) = true := by
    rw [notLongL hsz, Bool.and_false]
    exact Bool.false_ne_true
  refine call_meets PySem.F.slot_list_extend ⟨_, e, rfl⟩ PySem.F.entry_list_extend (PySem.F.args_list_extend_2 _ _)
    (ext_tuple l its.toArray n b ob its2.toArray n2 c2 d2 hlong (by rw [List.size_toArray]; omega) (by omega)) ⟨e, e2, ?_⟩
  refine ⟨.non, _, I.lset (its' := its ++ its2) hH e (by simp) (r.append r2) ?_, rfl, q⟩
  rw [List.length_append]
  omega
section
variable {X : Cx} {W : WX} {e a b : Expr} {f fa fb : DE} {pos : Pos} {es : List Expr} {fs fl : Sd → R (List D)}
/-! ### expressions that make a new list -/
def tF (B : Bd) (W : WX) (f : Sd → R (List D)) : TE := fun σ H Q => ∃ Oc Om σd, SR B Oc Om σd σ H ∧
  (f σd).post (fun ds => ∀ p vs H', Same H H' → H p = none → H' p = some (.lst vs) → RepL B (minus H' (p :: (Oc ++ Om))) ds vs → Q (.ref p) H') (exE B W σ H)
abbrev NDx (X : Cx) (W : WX) (e : Expr) (f : Sd → R (List D)) : Prop := PE X e (tF (bdOf X) W f)
def szL (ds : List D) : R (List D) := if ds.length ≤ sizeLine then .ok ds else .stuck
def nLst (fs : Sd → R (List D)) : Sd → R (List D) := fun σ => fs σ >>= szL
theorem fz_new2 {H : Hp} {O : List Addr} {p : Addr} {o : HO} (hp : H p = none) : minus (upd H p o) (p :: O) = minus H O := fz_temp hp o
theorem nd_lst (h : AD X W es fs) : NDx X W (.List es pos) (nLst fs) :=
  pe_imp (pe_lst h) fun σ H Q ⟨Oc, Om, σd, s, h⟩ => tDA_seq s h fun ds vs H1 e1 rs s1 h1 => by
    unfold szL at h1
    split at h1
    · rename_i q
      refine ⟨by rw [rs.length]; exact q, fun p hp => h1 p vs _ (e1.trans (same_upd hp)) ?_ upd_same (by rw [fz_new2 hp]; exact rs)⟩
      cases z : H p with
      | none => rfl
      | some o => rw [e1 _ _ z] at hp; cases hp
    · exact h1.elim
def nLc (own : List Nat) (t : Tgt) (tt : Sd → R Bool) (te : DE) (fi : Sd → R (List D)) : Sd → R (List D) := lcAll own t tt te fi
def sSetO (i : Nat) (f : Sd → R (List D)) : DS := fun σ => (f σ).toOut σ fun ds => if i < σ.length then .next (σ.set i (some (.ol ds))) else .stuck
theorem nd_seq {Oc Om : List Addr} {σd : Sd} {σ : L2.St} {H : Hp} {k : List D → Out} {Dn : Ends} {Q1 : VK} (s : SR (bdOf X) Oc Om σd σ H) (h : ((fl σd).toOut σd k).all (bdOf X) W Oc Om H Dn)
    (hk : ∀ ds p vs H', Same H H' → H p = none → H' p = some (.lst vs) → RepL (bdOf X) (minus H' (p :: (Oc ++ Om))) ds vs → (k ds).all (bdOf X) W Oc Om H' Dn → Q1 (.ref p) H') : tF (bdOf X) W fl σ H Q1 := by
  refine ⟨Oc, Om, σd, s, ?_⟩
  cases q : fl σd with
  | ok d =>
    rw [q] at h
    exact fun p vs H' e hp hv r => hk d p vs H' e hp hv r (Out.all_ext (.of_same e) h)
  | exc c =>
    rw [q] at h
    exact fun C H' hc e => h C σ Om H' hc (s.same e) (.of_same e)
  | stuck => rw [q] at h; exact h
theorem ext_new {Om : List Addr} {H H' : Hp} {p : Addr} (e : Same H H') (hp : H p = none) : Ext Om H (p :: Om) H' := ⟨fun _ _ _ q => e _ _ q, fun a ha => by
  rcases List.mem_cons.mp ha with z | z
  · rw [z]; exact .inr hp
  · exact .inl z⟩
theorem ext_new0 {Om : List Addr} {H' : Hp} {p : Addr} {H : Hp} (e : Same H H') (hp : H p = none) : Ext Om H (p :: Om) H' := ext_new e hp
theorem setO_next {Oc Om : List Addr} {σd : Sd} {σ : L2.St} {H H' : Hp} {i : Nat} {p : Addr} {ds : List D} {vs : List V} {k : L2.St → Hp → Prop} (s : SR (bdOf X) Oc Om σd σ H) (hl : i < σd.length) (e : Same H H') (hp : H p = none) (hv : H' p = some (.lst vs))
    (r : RepL (bdOf X) (minus H' (p :: (Oc ++ Om))) ds vs) (h : wNx (bdOf X) Oc Om H k (σd.set i (some (.ol ds)))) : k (σ.set i (some (.ref p))) H' :=
  h _ (p :: Om) H' ((s.same e).setO hl hv (s.ndO hp) r (s.fresh e hp)) (ext_new e hp)
theorem sd_setO {i : Nat} {x : Str} {pos' : Pos} (hN : X.N.Nodup) (hi : X.N[i]? = some x) (hx : Loc X.env.scope x) (he : NDx X W e fl) (hs : swapsWith e (some (.Name x pos')) pos.line X.env = pure false := by rfl)
    (hf : X.fn x = true ∨ X.env.scope.names.lookup x = some .local := by first | exact .inl rfl | exact .inr rfl | assumption) : SD X W (.Assign [.Name x pos'] e pos) (sSetO i fl) :=
  ps_imp (ps_set hN hi hx he hs hf) fun Dn σ H ⟨Oc, Om, σd, s, h⟩ => by
    cases q : fl σd with
    | stuck => unfold sSetO at h; rw [q] at h; exact h.elim
    | exc c =>
      unfold sSetO at h
      rw [q] at h
      refine ⟨Oc, Om, σd, s, ?_⟩
      rw [q]
      exact fun C H' hc e => h C σ Om H' hc (s.same e) (.of_same e)
    | ok ds =>
      unfold sSetO at h
      rw [q] at h
      replace h : (if i < σd.length then Out.next (σd.set i (some (.ol ds))) else .stuck).all (bdOf X) W Oc Om H Dn := h
      by_cases hl : i < σd.length
      case neg => rw [if_neg hl] at h; exact h.elim
      rw [if_pos hl] at h
      refine ⟨Oc, Om, σd, s, ?_⟩
      rw [q]
      exact fun p vs H' e hp hv r => setO_next s hl e hp hv r h
variable {elt tg iter : Expr} {ifs : List Expr} {scope : Scope} {own : List (Str × Nat)} {tt : Sd → R Bool} {te : DE} {fi : Sd → R (List D)}
theorem sd_lcO (t : Tgt) {i : Nat} {y : Str} {py spos : Pos} (hc : X.calm = true) (hN : X.N.Nodup) (hy : X.N[i]? = some y) (hyl : X.env.scope.names.lookup y = some .local)
    (hsw : swapsWith (.ListComp elt [⟨tg, iter, ifs, 0⟩] scope pos) (some (.Name y py)) spos.line X.env = pure true) (hi : ID X W tg iter fi) (ok : BlkOk X.N X.env.scope scope own) (hw : ∀ i ∈ t.slots, i ∈ own.map (·.2))
    (hg : ∀ (s : Shared) (H : Hp) (C : Addr) (cl : List (Str × Addr)) (fp : List Addr), PG (X.blk s H scope (compEnvC scope cl C X.env) fp) tg (t.g X.K)) (ht : ∀ (s : Shared) (H : Hp) (C : Addr) (cl : List (Str × Addr)) (fp : List Addr), ID0 (X.blk s H scope (compEnvC scope cl C X.env) fp) ifs tt)
    (he : ∀ (s : Shared) (H : Hp) (C : Addr) (cl : List (Str × Addr)) (fp : List Addr), ED (X.blk s H scope (compEnvC scope cl C X.env) fp) W0 elt te) (hs : ∀ x, foldedSetIterable iter X.env x = pure x := by intro _; rfl) :
    SD X W (.Assign [.Name y py] (.ListComp elt [⟨tg, iter, ifs, 0⟩] scope pos) spos) (sSetO i (nLc (own.map (·.2)) t tt te fi)) :=
  ps_imp (ps_setLc hc hN hy hyl hsw hi ok hg ht he hs) fun Dn σ H ⟨Oc, Om, σd, s, h⟩ => by
    cases q : lcAll (own.map (·.2)) t tt te fi σd with
    | stuck => unfold sSetO nLc at h; rw [q] at h; exact h.elim
    | exc c =>
      unfold sSetO nLc at h
      rw [q] at h
      refine lc_read (W := W) (tt := tt) (te := te) (P := fun _ : Unit => True) (k := fun _ => R.stuck) hw s ?_ (fun _ _ _ _ _ _ _ _ _ z => z.elim)
      rw [q]
      exact fun C H' hc e => h C σ Om H' hc (s.same e) (.of_same e)
    | ok ys =>
      unfold sSetO nLc at h
      rw [q] at h
      replace h : (if i < σd.length then Out.next (σd.set i (some (.ol ys))) else .stuck).all (bdOf X) W Oc Om H Dn := h
      by_cases hl : i < σd.length
      case neg => rw [if_neg hl] at h; exact h.elim
      rw [if_pos hl] at h
      refine lc_read (W := W) (tt := tt) (te := te) (P := fun zs => zs = ys) (k := fun zs => R.ok zs) hw s ?_ (fun zs p vs H' e1 hp hv r hz pz => ?_)
      · rw [q]
        exact rfl
      · have e : zs = ys := pz
        subst e
        exact setO_next s hl e1 hp hv r h
/-! ### changes -/
def olAt (i : Nat) (σ : Sd) (k : List D → Out) : Out := match σ[i]? with
  | some (some (.ol xs)) => k xs
  | _ => .stuck
theorem olAt_post {i : Nat} {σd : Sd} {k : List D → Out} {B : Bd} {Oc Om : List Addr} {H : Hp} {Dn : Ends} (h : (olAt i σd k).all B W Oc Om H Dn) : ∃ xs, σd[i]? = some (some (.ol xs)) ∧ (k xs).all B W Oc Om H Dn := by
  unfold olAt at h
  split at h
  · exact ⟨_, by assumption, h⟩
  · exact h.elim
/-- x.append(e) -/
def sApp (i : Nat) (f : DE) : DS := fun σ => olAt i σ fun xs => (f σ).toOut σ fun d => if xs.length < sizeLine then .next (σ.set i (some (.ol (xs ++ [d])))) else .stuck
theorem ext_w {Om : List Addr} {H : Hp} {p : Addr} {o : HO} (hp : p ∈ Om) : Ext Om H Om (upd H p o) := ⟨fun b u hb q => by rw [upd_ne (fun (z : b = p) => hb (by rw [z]; exact hp))]; exact q, fun _ h => .inl h⟩
theorem sd_app {o : Expr} {i : Nat} {apos cpos : Pos} (ho : PE X o (tVar i)) (he : ED X W e f) 
    (hbase : attributeBase o "append" X.env (eval o X.env) = eval o X.env := by rfl)
    (hfew : ((backTo cpos (starEach (e :: []) X.env)).all (fun x => !x.1) && (backToKw cpos (keywordEach [] X.env)).all (fun x => x.1.isSome)
      && decide ((e :: ([] : List Expr)).length + ([] : List Keyword).length + (if ([] : List Keyword).isEmpty then 0 else 1) < 30)) = true := by rfl)
    (hline : (apos.endLine == cpos.line) = true := by rfl) (hs : starEach (e :: []) X.env = (false, eval e X.env) :: starEach [] X.env := by rfl) (hplain : (backTo cpos (starEach [] X.env)).any (·.1) = false := by rfl)
    (hsw : swapsWith (.Call (.Attribute o "append" apos) [e] [] cpos) none pos.line X.env = pure false := by rfl) :
    SD X W (.Expr (.Call (.Attribute o "append" apos) [e] [] cpos) pos) (sApp i f) :=
  ps_imp (ps_expr (pe_bm PySem.F.plainAttrs_list PySem.F.slot_list_append PySem.F.type_list_append mt_append ho (pa_cons he pa_nil hs) hbase hfew hline hs hplain) hsw) fun Dn σ H ⟨Oc, Om, σd, s, h⟩ => by
    obtain ⟨xs, hx, h⟩ := olAt_post h
    obtain ⟨p, vs, k1, k2, k3, k4, k5⟩ := s.own hx
    refine ⟨.ref p, k1, .inl ⟨rfl, _, SqL.of k2⟩, ?_⟩
    refine toOut_seq s h fun d v H1 e1 r s1 h1 => ?_
    obtain ⟨p', vs', k1', k2', k3', k4', k5'⟩ := s1.own hx
    rw [k1] at k1'
    cases k1'
    split at h1
    · rename_i hl
      exact ⟨p, vs', v, rfl, rfl, k2', by rw [k4'.length]; exact hl, h1 σ Om _ (k5' _ _ (k4'.append (.cons r .nil))) (ext_w k3)⟩
    · exact h1.elim
/-- x.extend(e), e a list -/
def sExt (i : Nat) (f : DE) : DS := fun σ => olAt i σ fun xs => (f σ).toOut σ fun d => match d with
  | .lst ys => if xs.length + ys.length ≤ sizeLine then .next (σ.set i (some (.ol (xs ++ ys)))) else .stuck
  | .tup ys => if xs.length + ys.length ≤ sizeLine then .next (σ.set i (some (.ol (xs ++ ys)))) else .stuck
  | _ => .stuck
theorem sd_ext {o : Expr} {i : Nat} {apos cpos : Pos} (ho : PE X o (tVar i)) (he : ED X W e f) 
    (hbase : attributeBase o "extend" X.env (eval o X.env) = eval o X.env := by rfl)
    (hfew : ((backTo cpos (starEach (e :: []) X.env)).all (fun x => !x.1) && (backToKw cpos (keywordEach [] X.env)).all (fun x => x.1.isSome)
      && decide ((e :: ([] : List Expr)).length + ([] : List Keyword).length + (if ([] : List Keyword).isEmpty then 0 else 1) < 30)) = true := by rfl)
    (hline : (apos.endLine == cpos.line) = true := by rfl) (hs : starEach (e :: []) X.env = (false, eval e X.env) :: starEach [] X.env := by rfl) (hplain : (backTo cpos (starEach [] X.env)).any (·.1) = false := by rfl)
    (hsw : swapsWith (.Call (.Attribute o "extend" apos) [e] [] cpos) none pos.line X.env = pure false := by rfl) :
    SD X W (.Expr (.Call (.Attribute o "extend" apos) [e] [] cpos) pos) (sExt i f) :=
  ps_imp (ps_expr (pe_bm PySem.F.plainAttrs_list PySem.F.slot_list_extend PySem.F.type_list_extend ((show MtR X "list.extend" rExtend from mt_extend).or (show MtR X "list.extend" (rExtT X.K) from mt_extT)) ho (pa_cons he pa_nil hs) hbase hfew hline hs hplain) hsw) fun Dn σ H ⟨Oc, Om, σd, s, h⟩ => by
    obtain ⟨xs, hx, h⟩ := olAt_post h
    obtain ⟨p, vs, k1, k2, k3, k4, k5⟩ := s.own hx
    refine ⟨.ref p, k1, .inl ⟨rfl, _, SqL.of k2⟩, ?_⟩
    refine toOut_seq s h fun d v H1 e1 r s1 h1 => ?_
    obtain ⟨p', vs', k1', k2', k3', k4', k5'⟩ := s1.own hx
    rw [k1] at k1'
    cases k1'
    cases d with
    | lst ys =>
      obtain ⟨q, ws, rfl, h2, h3⟩ := (show ∃ a vs, v = .ref a ∧ _ = some (HO.lst vs) ∧ RepL _ _ ys vs by unfold Rep at r; exact r)
      replace h1 : (if xs.length + ys.length ≤ sizeLine then Out.next (σd.set i (some (.ol (xs ++ ys)))) else .stuck).all (bdOf X) W Oc Om H1 Dn := h1
      split at h1
      · rename_i hl
        exact .inl ⟨p, q, vs', ws, rfl, rfl, k2', fz_sub h2, by rw [k4'.length, h3.length]; exact hl, h1 σ Om _ (k5' _ _ (k4'.append h3)) (ext_w k3)⟩
      · exact h1.elim
    | tup ys =>
      obtain ⟨q, ws, rfl, h2, h3⟩ := (rep_sq r)
      replace h1 : (if xs.length + ys.length ≤ sizeLine then Out.next (σd.set i (some (.ol (xs ++ ys)))) else .stuck).all (bdOf X) W Oc Om H1 Dn := h1
      split at h1
      · rename_i hl
        exact .inr ⟨p, q, vs', ws, rfl, rfl, k2', Same.seqT minus_sub h2, by rw [k4'.length, h3.length]; exact hl, h1 σ Om _ (k5' _ _ (k4'.append h3)) (ext_w k3)⟩
      · exact h1.elim
    | _ => exact h1.elim
/-- from here on the list stands still -/
def sFrz (i : Nat) (g : DS) : DS := fun σ => olAt i σ fun xs => g (σ.set i (some (.lst xs)))
theorem ext_less {Om Om' : List Addr} {H : Hp} (h : ∀ a ∈ Om', a ∈ Om) : Ext Om H Om' H := ⟨fun _ _ _ q => q, fun a ha => .inl (h a ha)⟩
theorem sds_frz (i : Nat) {sts : List Stmt} {g : DS} (h1 : SDs X W sts g) : SDs X W sts (sFrz i g) := pss_imp h1 fun Dn σ H ⟨Oc, Om, σd, s, h⟩ => by
  obtain ⟨xs, hx, h⟩ := olAt_post h
  obtain ⟨Om', s', sub⟩ := s.freeze hx
  exact ⟨Oc, Om', _, s', Out.all_ext (ext_less sub) h⟩
/-- x[e] = v, x an owned list -/
def sSetIx (i : Nat) (fi fv : DE) : DS := fun σ => (fv σ).toOut σ fun d => olAt i σ fun xs => (fi σ).toOut σ fun k => match k with
  | .int n => (match ixN xs.length n with
    | some j => .next (σ.set i (some (.ol (xs.set j d))))
    | none => .stuck)
  | _ => .stuck
theorem RepL.set {B : Bd} {G : Hp} : ∀ {ds : List D} {vs : List V} {j : Nat} {d : D} {v : V}, RepL B G ds vs → Rep B G d v → RepL B G (ds.set j d) (vs.set j v)
  | [], _, _, _, _, h, _ => by rw [show _ = [] from h]; rfl
  | d0 :: ds, _, 0, d, v, h, r => by
    obtain ⟨v0, w, rfl, h1, h2⟩ := h
    exact ⟨v, w, rfl, r, h2⟩
  | d0 :: ds, _, j + 1, d, v, h, r => by
    obtain ⟨v0, w, rfl, h1, h2⟩ := h
    exact ⟨v0, w.set j v, rfl, h1, RepL.set h2 r⟩
theorem sd_setIx {o : Expr} {i : Nat} {vx : Expr} {fv : DE} {tpos : Pos} (ho : PE X o (tVar i)) (he : ED X W e f) (hv : ED X W vx fv) (hsub : PG X (.Subscript o e tpos) (gSub (tVar i) (tD (bdOf X) W f) rSetL))
    (hs : swapsWithSole [.Subscript o e tpos] vx pos.line X.env = pure false := by rfl) (hw : swappedStores [.Subscript o e tpos] vx X.env = pure none := by rfl) : SD X W (.Assign [.Subscript o e tpos] vx pos) (sSetIx i f fv) :=
  ps_imp (ps_asg hv hsub hs hw) fun Dn σ H ⟨Oc, Om, σd, s, h⟩ => by
    refine toOut_seq s h fun d v H1 e1 r s1 h1 => ?_
    obtain ⟨xs, hx, h1⟩ := olAt_post h1
    obtain ⟨p, vs, k1, k2, k3, k4, k5⟩ := s1.own hx
    refine ⟨.ref p, k1, ?_⟩
    refine toOut_seq s1 h1 fun k u H2 e2 r2 s2 h2 => ?_
    obtain ⟨p', vs', k1', k2', k3', k4', k5'⟩ := s2.own hx
    rw [k1] at k1'
    cases k1'
    cases k with
    | int n =>
      cases r2
      replace h2 : (match ixN xs.length n with
        | some j => Out.next (σd.set i (some (.ol (xs.set j d))))
        | none => .stuck).all (bdOf X) W Oc Om H2 Dn := h2
      split at h2
      · rename_i j hj
        exact ⟨p, vs', n, j, rfl, rfl, k2', by rw [k4'.length]; exact hj, h2 σ Om _ (k5' _ _ (k4'.set (r.mono (same_minus e2)))) (ext_w k3)⟩
      · exact h2.elim
    | _ => exact h2.elim
/-! ### an owned list read -/
/-- x[e]: an item -/
def eIxO (i : Nat) (f : DE) : DE := fun σ => match σ[i]? with
  | some (some (.ol xs)) => f σ >>= fun k => (match k with
    | .int n => ofO (atI xs n)
    | _ => .stuck)
  | _ => .stuck
theorem ed_ixO {i : Nat} (ho : PE X a (tVar i)) (hb : ED X W b fb) (hs : PlainIx b) : ED X W (.Subscript a b pos) (eIxO i fb) := pe_imp (pe_ix ix_list ho hb hs) fun σ H Q ⟨Oc, Om, σd, s, h⟩ => by
  unfold eIxO at h
  split at h
  · rename_i xs hx
    obtain ⟨p, vs, k1, k2, k3, k4, k5⟩ := s.own hx
    refine ⟨.ref p, k1, tD_seq s h fun k u H1 e1 r s1 h1 => ?_⟩
    cases k with
    | int n =>
      cases r
      replace h1 : (ofO (atI xs n)).post _ _ := h1
      cases q : atI xs n with
      | none => rw [q] at h1; exact h1.elim
      | some d =>
        rw [q] at h1
        obtain ⟨w, e2, r2⟩ := k4.atI q
        exact ⟨p, vs, n, w, rfl, rfl, SqL.of (e1 _ _ k2), e2, h1 w H1 e1 (r2.mono (same_minus e1))⟩
    | _ => exact h1.elim
  · exact h.elim
def scalD : D → Bool
  | .non => true
  | .bl _ => true
  | .int _ => true
  | .str _ => true
  | _ => false
/-- an expression that only looks: the list stands still meanwhile; its answer is flat -/
def bor (i : Nat) (σ : Sd) : Sd := match σ[i]? with
  | some (some (.ol xs)) => σ.set i (some (.lst xs))
  | _ => σ
def eBor (i : Nat) (f : DE) : DE := fun σ => f (bor i σ) >>= fun d => if scalD d = true then .ok d else .stuck
def tBor (i : Nat) (f : Sd → R Bool) : Sd → R Bool := fun σ => f (bor i σ)
theorem bor_sr {B : Bd} {Oc Om : List Addr} {σd : Sd} {σ : L2.St} {H : Hp} (s : SR B Oc Om σd σ H) (i : Nat) : ∃ Om', SR B Oc Om' (bor i σd) σ H := by
  unfold bor
  split
  · rename_i xs hx
    obtain ⟨Om', s', _⟩ := s.freeze hx
    exact ⟨Om', s'⟩
  · exact ⟨Om, s⟩
theorem Rep.scal {B : Bd} {G G' : Hp} {d : D} {v : V} (h : scalD d = true) (r : Rep B G d v) : Rep B G' d v := by
  cases d <;> first | exact r | cases h
theorem ed_bor (i : Nat) (h : ED X W e f) : ED X W e (eBor i f) := pe_imp h fun σ H Q ⟨Oc, Om, σd, s, h⟩ => by
  obtain ⟨Om', s'⟩ := bor_sr s i
  refine ⟨Oc, Om', _, s', R.post_imp (R.post_bind h) (fun d _ p v H' e' r => ?_) (fun c _ q => q)⟩
  replace p : (if scalD d = true then R.ok d else .stuck).post _ _ := p
  by_cases z : scalD d = true
  · rw [if_pos z] at p
    exact p v H' e' (r.scal z)
  · rw [if_neg z] at p; exact p.elim
theorem td_bor (i : Nat) {g : Sd → R Bool} (h : TD X W e g) : TD X W e (tBor i g) := pt_imp h fun σ H Q ⟨Oc, Om, σd, s, h⟩ => by
  obtain ⟨Om', s'⟩ := bor_sr s i
  exact ⟨Oc, Om', _, s', h⟩
/-! ### calls of defs -/
def outR : Out → R D
  | .next _ => .ok .non
  | .ret d _ => .ok d
  | .exc c _ => .exc c
  | _ => .stuck
def startD (N : Nat) (ds : List D) : Sd := ds.map some ++ List.replicate (N - ds.length) none
def runD (n N : Nat) (g : DS) (ds : List D) : R D := if ds.length = n then outR (g (startD N ds)) else .stuck
def spD (B : Bd) (n : Nat) (m : List D → R D) : Sp := fun vs H Q E => ∃ (O : List Addr) (ds : List D), ds.length = n ∧ (∀ a ∈ O, H a ≠ none) ∧ RepL B (minus H O) ds vs ∧
  (m ds).post (fun d => ∀ v H', Same H H' → Rep B (minus H' O) d v → Q v H') (fun c => ∀ C H', B.mg c = some (.ref C) → Same H H' → E (.ref C) none H')
structure Calls (P : Program) (w : World) (K : PySem.W.Frag) (mg : Str → Option Value) (base : Heap) (x : Str) (n k : Nat) (m : List D → R D) : Prop where
  at_ : ∃ (f : Addr) (fd : FuncData) (ps : List Str), ps.length = n ∧ FnOk P w K mg base (L2.CX P w) k f fd ps (spD ⟨K, mg, P, w⟩ n m) ∧ mg x = some (.ref f) ∧ PySem.W.keepIn K (.ref f) = true ∧ Binds K fd ps []
  ar : ∀ ds, ds.length ≠ n → m ds = .stuck
def eCall (m : List D → R D) (fs : Sd → R (List D)) : DE := fun σ => fs σ >>= m
theorem ed_call {x : Str} {p : Pos} {n k k' : Nat} {m : List D → R D} (tk : Takes X W) (hr : Room k' X.A) (hk : k ≤ k') (h : Calls X.prog X.w X.K X.mg X.base x n k m) (hg : Gl X x) (ha : AD X W (e :: es) fs)
    (hdb : (x == ("__debug__" : Str)) = false := by decide) (he : starEach (e :: es) X.env = (false, eval e X.env) :: starEach es X.env := by rfl) (hpl : (backTo pos (starEach es X.env)).any (·.1) = false := by rfl) :
    ED X W (.Call (.Name x p) (e :: es) [] pos) (eCall m fs) := by
  obtain ⟨f, fd, ps, hn, F, hm, hkp, hb⟩ := h.at_
  refine pe_imp (pe_callS F (hr.mono hk) hg hm hkp hb (fun σ => passAt tk σ) ha hdb he hpl) fun σ H Q ⟨Oc, Om, σd, s, q⟩ => tDA_seq s q fun ds vs H1 e1 rs s1 h1 => ?_
  refine ⟨Oc ++ Om, ds, ?_, s1.1, rs, R.post_imp h1 (fun d _ p v H' e' r => p v H' (e1.trans e') r) fun c _ z => z⟩
  by_cases z : ds.length = n
  · exact z
  · rw [h.ar ds z] at h1
    exact h1.elim
/-! ### a def -/
structure CtxD (X : Cx) (W : WX) (k : Nat) : Prop where
  room : Room k X.A
  tk : Takes X W
  ow : PassesOwn (model X.prog X.w) X.A X.env X.xe
theorem slots_start {B : Bd} {G H : Hp} : ∀ {ds : List D} {vs : List V} (n : Nat), RepL B G ds vs → SlotsR B G H (ds.map some ++ List.replicate n none) (vs.map some ++ List.replicate n none) []
  | [], _, n, h => by
    rw [show _ = [] from h]
    induction n with
    | zero => exact ⟨rfl, rfl⟩
    | succ n ih => exact ⟨none, _, [], [], rfl, rfl, rfl, ih⟩
  | d :: ds, _, n, h => by
    obtain ⟨v, r, rfl, h1, h2⟩ := h
    exact ⟨some v, _, [], [], rfl, rfl, ⟨v, rfl, (OR_frz h1.notOwn).mpr ⟨rfl, h1⟩⟩, slots_start n h2⟩
abbrev WE0 (E : XK) : WX := fun cls d _ H => E cls d H
theorem calls_of {P : Program} {w : World} {K : PySem.W.Frag} {mg : Str → Option Value} {base : Heap} {x x' qual : Str} {params : Arguments} {body : List Stmt} {scope : Scope} {f : Addr} {fd : FuncData} {N ps : List Str} {k : Nat} {g : DS}
    (F : FunD K x' qual params body scope [] [] f fd) (S : FnScope N ps scope) (hm : mg x = some (.ref f)) (hb : Binds K fd ps [])
    (hbody : ∀ (cdv : Value) (A : Around) (outer : List Env) (s : Shared) (H : Hp) (E : XK), CtxD (cxOf (L2.CX P w) P w K mg base N qual scope f cdv A outer s H E) (WE0 E) k →
      SDs (cxOf (L2.CX P w) P w K mg base N qual scope f cdv A outer s H E) (WE0 E) body g) : Calls P w K mg base x ps.length (k + 1) (runD ps.length N.length g) := by
  refine ⟨⟨f, fd, ps, rfl, F.ok S (fun vs H Q E h => ?_) (fun cdv A outer s H vs Q E hr h => ⟨_, hbody cdv A outer s H E ⟨hr, takes_of rfl rfl rfl rfl, passes_of rfl⟩, ?_⟩), hm, F.kp, hb⟩, fun ds z => by unfold runD; rw [if_neg z]⟩
  · obtain ⟨O, ds, h1, _, h2, _⟩ := h
    rw [h2.length, h1]
  · obtain ⟨O, ds, h1, h0, h2, h3⟩ := h
    unfold runD at h3
    rw [if_pos h1] at h3
    have hl : vs.length = ds.length := h2.length
    refine ⟨O, [], startD N.length ds, ⟨by simpa using h0, [], ?_, List.nodup_nil, by simp⟩, ?_⟩
    · unfold startD L2.start
      rw [List.append_nil, hl]
      exact slots_start _ h2
    · have sm : ∀ {Om' : List Addr} {H' : Hp}, Ext [] H Om' H' → Same H H' := fun x b o q => x.keep b o (by simp) q
      cases q : g (startD N.length ds) with
      | next σ1 =>
        rw [q] at h3
        exact fun σ' Om' H' s' x => h3 .non H' (sm x) rfl
      | ret d σ1 =>
        rw [q] at h3
        exact fun v σ' Om' H' s' x r => h3 v H' (sm x) (r.mono (sub_minus fun a ha => by simp [ha]))
      | brk σ1 => rw [q] at h3; exact h3.elim
      | cont σ1 => rw [q] at h3; exact h3.elim
      | exc c σ1 =>
        rw [q] at h3
        exact fun C σ' Om' H' hc s' x => h3 C H' hc (sm x)
      | stuck => rw [q] at h3; exact h3.elim
/-- no call at all is asked -/
theorem calls_none {P : Program} {w : World} {K : PySem.W.Frag} {mg : Str → Option Value} {base : Heap} {x x' qual : Str} {params : Arguments} {body : List Stmt} {scope : Scope} {f : Addr} {fd : FuncData} {ps : List Str} {k : Nat}
    (F : FunD K x' qual params body scope [] [] f fd) (hm : mg x = some (.ref f)) (hb : Binds K fd ps []) : Calls P w K mg base x ps.length k (fun _ => .stuck) := by
  have no : ∀ vs H Q E, ¬ spD ⟨K, mg, P, w⟩ ps.length (fun _ => .stuck) vs H Q E := fun vs H Q E ⟨_, _, _, _, _, z⟩ => z.elim
  exact ⟨⟨f, fd, ps, rfl, ⟨fun vs H Q E h => absurd h (no vs H Q E), fun A outer s H args us vs Q E _ _ _ _ h => absurd h (no vs H Q E)⟩, hm, F.kp, hb⟩, fun _ _ => rfl⟩
theorem Calls.mono {P : Program} {w : World} {K : PySem.W.Frag} {mg : Str → Option Value} {base : Heap} {x : Str} {n j k : Nat} {m : List D → R D} (h : Calls P w K mg base x n j m) (hk : j ≤ k) : Calls P w K mg base x n k m := by
  obtain ⟨f, fd, ps, h1, F, h2⟩ := h.at_
  exact ⟨⟨f, fd, ps, h1, F.mono hk, h2⟩, h.ar⟩
/-! ### raise -/
def sRaise (c : Str) : DS := fun σ => .exc c σ
structure ExcF (K : PySem.W.Frag) (mg : Str → Option Value) (c : Str) (C : Addr) : Prop where
  gC : mg c = some (.ref C)
  x : PySem.W.excIn K C [.type "ValueError", .type "Exception", .type "BaseException", .type "object"] "ValueError.__new__" = true
  k : PySem.W.keepIn K (.ref C) = true
  b : PySem.W.subIn K (.ref C) (.type "BaseException") = some true
  t : PySem.W.typeIn K (.ref C) = some (.type "type")
theorem sd_raise {c m : Str} {j : Nat} {C : Addr} {p p2 cpos : Pos} (hc : X.calm = true) (tk : Takes X W) (F : ExcF X.K X.mg c C) (hg : Gl X c) (hdb : (c == ("__debug__" : Str)) = false := by decide) :
    SD X W (.Raise (some (.Call (.Name c p) [.Constant (.str m) j p2] [] cpos)) none pos) (sRaise c) :=
  ps_imp (ps_raise hc tk (pmk_own PySem.F.excBase_ValueError F.x F.gC F.k (raises_own F.b F.t) hg hdb)) fun Dn σ H ⟨Oc, Om, σd, s, h⟩ => h C σ Om H F.gC s .refl
/-! ### isinstance(e, T), T a built-in class -/
theorem Rep.ty {B : Bd} {G H : Hp} {d : D} {v : V} {T : String} (r : Rep B G d v) (sub : Same G H) (h : tyName d = some T) : TyX B.K H v (.type T) := by
  cases d <;> (simp only [tyName, Option.some.injEq, reduceCtorEq] at h) <;> (try subst h)
  · cases r; exact .base .non
  · cases r; exact .base (.bl _)
  · cases r; exact .base (.int _)
  · cases r; exact .base (.str _)
  · rename_i ds
    obtain ⟨a, vs, rfl, h1, h2⟩ := (rep_sq r)
    rcases h1 with (h1 | ⟨o, h1⟩) | ⟨o, its, n, h1, h3, _⟩
    · exact .base (.tup (sub _ _ h1))
    · exact .fTuple (sub _ _ h1)
    · exact .kTuple h1 h3
  · rename_i ds
    obtain ⟨a, vs, rfl, h1, h2⟩ := (show ∃ a vs, v = .ref a ∧ _ = some (HO.lst vs) ∧ RepL _ _ ds vs by unfold Rep at r; exact r)
    exact .base (.lst (sub _ _ h1))
def eIsi (T : String) (f : DE) : DE := fun σ => f σ >>= fun d => match (tyName d).bind fun n => kitB n T with
  | some b => .ok (.bl b)
  | none => .stuck
theorem ed_isi {T : String} {y : Str} {p p2 : Pos} (hg : Gl X "isinstance") (hm : X.mg "isinstance" = none) (ha : ED X W a fa) (hT : PE X (.Name y p2) (tC (.ty T)))
    (he : starEach [a, .Name y p2] X.env = (false, eval a X.env) :: starEach [.Name y p2] X.env := by rfl) (hpl : (backTo pos (starEach [.Name y p2] X.env)).any (·.1) = false := by rfl) : ED X W (.Call (.Name "isinstance" p) [a, .Name y p2] [] pos) (eIsi T fa) :=
  pe_imp (pe_callB call_isi hg hm (by decide +kernel) (pa_cons ha (pa_cons hT pa_nil) he) (by decide) (by decide) he hpl) fun σ H Q ⟨Oc, Om, σd, s, h⟩ => tD_seq s h fun d v H1 e1 r s1 h1 => by
    split at h1
    · rename_i b q
      cases z : tyName d with
      | none => rw [z] at q; cases q
      | some n =>
        rw [z] at q
        exact ⟨v, .ty T, _, _, b, rfl, .ty T, r.ty minus_sub z, kit_ty q, h1 _ H1 e1 rfl⟩
    · exact h1.elim
end
end FF
set_option maxHeartbeats 4000000
/-! methods of lists and tuples; len(set(..)); try .. except X as e: kept = e -/
namespace FF
open PySem PySem.Spec PyProof.Rows L2
section
variable {X : Cx} {W : WX} {e a b o : Expr} {f fa fb fo : DE} {pos : Pos} {es : List Expr} {fs : Sd → R (List D)}
/-! ### o.m(e) where o is a list or a tuple -/
/-- a method of a built-in type, what the receiver is told by ty -/
theorem pe_bmG {T id : String} {name : Str} {r : V → List V → Hp → VK → Prop} {to : TE} {t : TA} {apos cpos : Pos} (ty : V → Hp → Prop)
    (hT : ∀ {pins : List (Addr × Obj)} {σ : L2.St} {H : Hp} {s : Shared} {x : V} {v : Value}, Inv X pins σ H s → RelV x v → ty x H → s.TypeIs v T ∧ ∀ a, v = .ref a → ∃ ob, s.heap.get? a = some ob ∧ ob.dict = none)
    (pa : PlainAttrs T) (slot : Slot T name id) (hty : typeOf (.builtin id) = pure (.type "method_descriptor")) (hm : MtR X id r) (ho : PE X o to) (ha : PA X (e :: es) t)
    (hbase : attributeBase o name X.env (eval o X.env) = eval o X.env)
    (hfew : ((backTo cpos (starEach (e :: es) X.env)).all (fun x => !x.1) && (backToKw cpos (keywordEach [] X.env)).all (fun x => x.1.isSome)
      && decide ((e :: es).length + ([] : List Keyword).length + (if ([] : List Keyword).isEmpty then 0 else 1) < 30)) = true)
    (hline : (apos.endLine == cpos.line) = true) (hs : starEach (e :: es) X.env = (false, eval e X.env) :: starEach es X.env) (hplain : (backTo cpos (starEach es X.env)).any (·.1) = false) :
    PE X (.Call (.Attribute o name apos) (e :: es) [] cpos) (fun σ H Q => to σ H fun x H1 => ty x H1 ∧ t σ H1 fun xs H2 => r x xs H2 Q) :=
  ⟨fun pins s σ H Q I h => wpAny_Call_method_late hbase hfew hline rfl (thn (ho.run pins s σ H _ I h) fun v s1 ⟨x, H1, I1, r1, tx, q1⟩ => by
    obtain ⟨h1, h2⟩ := hT I1 r1 tx
    refine ⟨T, id, pa, slot, hty, h1, h2, ?_⟩
    have hA := ha.run cpos pins s1 σ H1 _ I1 q1
    rw [hs] at hA ⊢
    refine Calls.callWith_builtin ?_ (Calls.evalArgs_plain (thn hA fun us s2 ⟨vs, H2, I2, r2, q2⟩ => hm pins s2 σ H2 x vs v us Q I2 r1 r2 q2))
    show (false || (backTo cpos (starEach es X.env)).any (·.1)) = false
    rw [hplain] <;> rfl)⟩
/-- a tuple without a dict of its own -/
def isTupV (K : PySem.W.Frag) (x : V) (H : Hp) : Prop := ∃ p xs, x = .ref p ∧ SqT K H p xs
def isLstV (K : PySem.W.Frag) (x : V) (H : Hp) : Prop := ∃ p xs, x = .ref p ∧ SqL K H p xs
theorem tyL {pins : List (Addr × Obj)} {σ : L2.St} {H : Hp} {s : Shared} {x : V} {v : Value} (I : Inv X pins σ H s) (r : RelV x v) (ty : isLstV X.K x H) : s.TypeIs v "list" ∧ ∀ a, v = .ref a → ∃ ob, s.heap.get? a = some ob ∧ ob.dict = none := by
  obtain ⟨p, xs, rfl, h⟩ := ty
  exact tyV_is I r (.inl ⟨rfl, xs, h⟩)
theorem itemsP {H : Hp} {pins : List (Addr × Obj)} {σ : L2.St} {s : Shared} {ds : List D} {vs : List V} {its : List Value} (I : Inv X pins σ H s) (hd : DpAll X.K H vs (toPyL ds)) (r : Vals vs its) : ∃ as, ReadsAll s.heap its.toArray.toList (toPyL ds) as := Dp.readsAll I _ _ _ hd r
def placeD (ds : List D) (d : D) : Option Nat := ds.findIdx? fun y => pyEq y d
theorem place_toPy (d : D) : ∀ ds : List D, PySem.SeqAt.dataPlace (toPyL ds) (toPy d) = placeD ds d
  | [] => rfl
  | x :: xs => by
    have ih := place_toPy d xs
    unfold PySem.SeqAt.dataPlace placeD at ih ⊢
    rw [toPyL, List.findIdx?_cons, List.findIdx?_cons, ih]
    rfl
def countD (ds : List D) (d : D) : Nat := ds.countP fun y => pyEq y d
theorem count_toPy (d : D) : ∀ ds : List D, ((toPyL ds).countP fun y => PyData.eqv y (toPy d)) = countD ds d
  | [] => rfl
  | x :: xs => by
    have ih := count_toPy d xs
    unfold countD at ih ⊢
    rw [toPyL, List.countP_cons, List.countP_cons, ih]
    rfl
def rPlc (K : PySem.W.Frag) (sq : Hp → Addr → List V → Prop) (k : List D → D → Option Int) : V → List V → Hp → VK → Prop := fun x xs H Q => ∃ (p : Addr) (vs : List V) (y : V) (ds : List D) (d : D) (n : Int), x = .ref p ∧ xs = [y] ∧ sq H p vs ∧ DpAll K H vs (toPyL ds) ∧ Dp K H y (toPy d) ∧
  okIn d ds = true ∧ k ds d = some n ∧ Q (.int n) H
def idxK (ds : List D) (d : D) : Option Int := (placeD ds d).map fun (j : Nat) => (j : Int)
def cntK (ds : List D) (d : D) : Option Int := some (countD ds d : Nat)
theorem roomI {A : Around} {n : Nat} (hu : A.units + 200 < cLine) (h : n ≤ 100) : A.units + 1 + n < cLine := by omega
theorem mt_idxL (hu : Rm X) : MtR X "list.index" (rPlc X.K (SqL X.K) idxK) := by
  intro pins s σ H x xs v us Q I rx rxs h
  obtain ⟨p, vs, y, ds, d, n, rfl, rfl, hs, hds, hd, ok, hk, q⟩ := h
  obtain ⟨o1, o2, o3⟩ := okIn_parts ok
  cases rx
  obtain ⟨u, rfl, ru⟩ := rxs.one
  obtain ⟨its, rv, ⟨⟨cls, dd, data, sl⟩, m, ho, hc, hdn, hdt⟩, hlen⟩ := I.list hs
  simp only at hc hdt
  subst hc hdt
  obtain ⟨as, ra⟩ := itemsP I hds rv
  obtain ⟨bs, rb⟩ := Dp.reads I _ y u hd ru
  have hx := toPyL_plain ds o2
  have hp := toPy_plain d o1
  unfold idxK at hk
  cases z : placeD ds d with
  | none => rw [z] at hk; cases hk
  | some j =>
    rw [z] at hk
    cases hk
    obtain ⟨hj, h1, h2⟩ := SeqAt.hit_at (d := toPy d) ra hx (by rw [place_toPy]; exact z)
    have hsz := sizeLine_eq
    have hl := rv.length
    have hj' : j < its.length := by simpa using hj
    exact call_meets PySem.F.slot_list_index ⟨_, ho, rfl⟩ PySem.F.entry_list_index (PySem.F.args_list_index_2 _ _)
      (SeqAt.list_indexAt p its.toArray m dd sl u (fun w => PyData.eqv (SeqAt.readOf s.heap w) (toPy d)) j hj (by omega) h1 h2) ⟨ho, SeqAt.items_plain ra rb hx hp (roomI hu o3), ⟨.int (j : Nat), H, I.tok _, ⟨_, rfl⟩, q⟩⟩
theorem mt_idxT (hu : Rm X) : MtR X "tuple.index" (rPlc X.K (SqT X.K) idxK) := by
  intro pins s σ H x xs v us Q I rx rxs h
  obtain ⟨p, vs, y, ds, d, n, rfl, rfl, hs, hds, hd, ok, hk, q⟩ := h
  obtain ⟨o1, o2, o3⟩ := okIn_parts ok
  cases rx
  obtain ⟨u, rfl, ru⟩ := rxs.one
  obtain ⟨its, rv, ⟨⟨cls, dd, data, sl⟩, ho, hc, m, hdt⟩, hlen⟩ := I.tuple hs
  simp only at hc hdt
  subst hc hdt
  obtain ⟨as, ra⟩ := itemsP I hds rv
  obtain ⟨bs, rb⟩ := Dp.reads I _ y u hd ru
  have hx := toPyL_plain ds o2
  have hp := toPy_plain d o1
  unfold idxK at hk
  cases z : placeD ds d with
  | none => rw [z] at hk; cases hk
  | some j =>
    rw [z] at hk
    cases hk
    obtain ⟨hj, h1, h2⟩ := SeqAt.hit_at (d := toPy d) ra hx (by rw [place_toPy]; exact z)
    exact call_meets PySem.F.slot_tuple_index ⟨_, ho, rfl⟩ PySem.F.entry_tuple_index (PySem.F.args_tuple_index_2 _ _)
      (TI.tuple_indexAt p its.toArray m dd sl u (fun w => PyData.eqv (SeqAt.readOf s.heap w) (toPy d)) j hj h1 h2) ⟨ho, SeqAt.items_plain ra rb hx hp (roomI hu o3), ⟨.int (j : Nat), H, I.tok _, ⟨_, rfl⟩, q⟩⟩
theorem mt_cntL (hu : Rm X) : MtR X "list.count" (rPlc X.K (SqL X.K) cntK) := by
  intro pins s σ H x xs v us Q I rx rxs h
  obtain ⟨p, vs, y, ds, d, n, rfl, rfl, hs, hds, hd, ok, hk, q⟩ := h
  obtain ⟨o1, o2, o3⟩ := okIn_parts ok
  cases rx
  obtain ⟨u, rfl, ru⟩ := rxs.one
  obtain ⟨its, rv, hl, hlen⟩ := I.list hs
  obtain ⟨as, ra⟩ := itemsP I hds rv
  obtain ⟨bs, rb⟩ := Dp.reads I _ y u hd ru
  cases hk
  exact SeqAt.count_list_data hl.isList ra rb (toPyL_plain ds o2) (toPy_plain d o1) (roomI hu o3) ⟨.int _, H, I.tok _, ⟨_, by rw [count_toPy]⟩, q⟩
theorem mt_cntT (hu : Rm X) : MtR X "tuple.count" (rPlc X.K (SqT X.K) cntK) := by
  intro pins s σ H x xs v us Q I rx rxs h
  obtain ⟨p, vs, y, ds, d, n, rfl, rfl, hs, hds, hd, ok, hk, q⟩ := h
  obtain ⟨o1, o2, o3⟩ := okIn_parts ok
  cases rx
  obtain ⟨u, rfl, ru⟩ := rxs.one
  obtain ⟨its, rv, hl, hlen⟩ := I.tuple hs
  obtain ⟨as, ra⟩ := itemsP I hds rv
  obtain ⟨bs, rb⟩ := Dp.reads I _ y u hd ru
  cases hk
  exact SeqAt.count_tuple_data hl ra rb (toPyL_plain ds o2) (toPy_plain d o1) (roomI hu o3) ⟨.int _, H, I.tok _, ⟨_, by rw [count_toPy]⟩, q⟩
/-- o.index(e), o.count(e) -/
def plc (k : List D → D → Option Int) (ds : List D) (d : D) : R D := if okIn d ds = true then (match k ds d with
    | some n => .ok (.int n)
    | none => .stuck) else .stuck
def eMtL (k : List D → D → Option Int) (fo f : DE) : DE := fun σ => fo σ >>= fun x => match x with
  | .lst ds => f σ >>= fun y => (plc k ds y).quiet
  | _ => .stuck
def eMtT (k : List D → D → Option Int) (fo f : DE) : DE := fun σ => fo σ >>= fun x => match x with
  | .tup ds => f σ >>= fun y => (plc k ds y).quiet
  | _ => .stuck
theorem plc_post {k : List D → D → Option Int} {ds : List D} {y : D} {P : D → Prop} {E : Str → Prop} (h : (plc k ds y).post P E) : okIn y ds = true ∧ ∃ n, k ds y = some n ∧ P (.int n) := by
  unfold plc at h
  split at h
  · split at h
    · exact ⟨by assumption, _, by assumption, h⟩
    · exact h.elim
  · exact h.elim
theorem ed_mtL {id : String} {name : Str} {k : List D → D → Option Int} {apos cpos : Pos} (slot : Slot "list" name id) (hty : typeOf (.builtin id) = pure (.type "method_descriptor")) (hm : MtR X id (rPlc X.K (SqL X.K) k)) (ho : ED X W o fo) (he : ED X W e f)
    (hbase : attributeBase o name X.env (eval o X.env) = eval o X.env := by rfl)
    (hfew : ((backTo cpos (starEach [e] X.env)).all (fun x => !x.1) && (backToKw cpos (keywordEach [] X.env)).all (fun x => x.1.isSome)
      && decide ([e].length + ([] : List Keyword).length + (if ([] : List Keyword).isEmpty then 0 else 1) < 30)) = true := by rfl)
    (hline : (apos.endLine == cpos.line) = true := by rfl) (hs : starEach [e] X.env = (false, eval e X.env) :: starEach [] X.env := by rfl) (hplain : (backTo cpos (starEach [] X.env)).any (·.1) = false := by rfl) :
    ED X W (.Call (.Attribute o name apos) [e] [] cpos) (eMtL k fo f) :=
  pe_imp (pe_bmG (isLstV X.K) tyL PySem.F.plainAttrs_list slot hty hm ho (pa_cons he pa_nil hs) hbase hfew hline hs hplain) fun σ H Q ⟨Oc, Om, σd, s, h⟩ => tD_seq s h fun x u H1 e1 r s1 h1 => by
    cases x with
    | lst ds =>
      obtain ⟨p, vs, rfl, k1, k2⟩ := (show ∃ a vs, u = .ref a ∧ _ = some (HO.lst vs) ∧ RepL _ _ ds vs by unfold Rep at r; exact r)
      refine ⟨⟨p, vs, rfl, SqL.of (fz_sub k1)⟩, tD_seq s1 h1 fun y v H2 e2 r2 s2 h2 => ?_⟩
      obtain ⟨ok, n, hk, h3⟩ := plc_post (post_q h2 (e1.trans e2))
      obtain ⟨o1, o2, o3⟩ := okIn_parts ok
      exact ⟨p, vs, v, ds, y, n, rfl, rfl, SqL.of (e2 _ _ (fz_sub k1)), RepL.dp ((k2.mono minus_sub).mono e2) o2, Rep.dp (r2.mono minus_sub) o1, ok, hk, h3 _ H2 (Same.refl _) rfl⟩
    | _ => exact h1.elim
/-- a tuple of the module's top -/
structure GlbT (B : Bd) (x : Str) (ds : List D) : Prop where
  at_ : ∃ p o vs, B.mg x = some (.ref p) ∧ B.K.lookup p = some o ∧ o.cls = .type "tuple" ∧ o.dict = none ∧ (∀ G, SqT B.K G p vs) ∧ ∀ G, RepL B G ds vs
theorem GlbT.glb {B : Bd} {x : Str} {ds : List D} (h : GlbT B x ds) : Glb B x (.tup ds) := by
  obtain ⟨p, o, vs, h1, h2, h3, h4, h5, h6⟩ := h.at_
  exact ⟨.ref p, .ref p, h1, rfl, fun G => by unfold Rep; exact ⟨p, vs, rfl, TpT.of_all h5 G, h6 G⟩⟩
/-- t.index(e), t a constant of the module's top -/
def eMtG (k : List D → D → Option Int) (ds : List D) (f : DE) : DE := fun σ => f σ >>= fun y => (plc k ds y).quiet
theorem ed_mtG {id : String} {name x : Str} {ds : List D} {k : List D → D → Option Int} {apos cpos xpos : Pos} (slot : Slot "tuple" name id) (hty : typeOf (.builtin id) = pure (.type "method_descriptor")) (hm : MtR X id (rPlc X.K (SqT X.K) k)) (hg : Gl X x) (hx : GlbT (bdOf X) x ds) (he : ED X W e f)
    (hd : (x == ("__debug__" : Str)) = false := by decide)
    (hbase : attributeBase (.Name x xpos) name X.env (eval (.Name x xpos) X.env) = eval (.Name x xpos) X.env := by rfl)
    (hfew : ((backTo cpos (starEach [e] X.env)).all (fun x => !x.1) && (backToKw cpos (keywordEach [] X.env)).all (fun x => x.1.isSome)
      && decide ([e].length + ([] : List Keyword).length + (if ([] : List Keyword).isEmpty then 0 else 1) < 30)) = true := by rfl)
    (hline : (apos.endLine == cpos.line) = true := by rfl) (hs : starEach [e] X.env = (false, eval e X.env) :: starEach [] X.env := by rfl) (hplain : (backTo cpos (starEach [] X.env)).any (·.1) = false := by rfl) :
    ED X W (.Call (.Attribute (.Name x xpos) name apos) [e] [] cpos) (eMtG k ds f) := by
  obtain ⟨p, ob, vs, h1, h2, h3, h4, h5, h6⟩ := hx.at_
  refine pe_imp (pe_bm PySem.F.plainAttrs_tuple slot hty hm (pe_glob (v := .ref p) hg h1 rfl hd) (pa_cons he pa_nil hs) hbase hfew hline hs hplain) fun σ H Q ⟨Oc, Om, σd, s, h⟩ => ⟨.inr (.inl ⟨rfl, ob, h2, h3, h4⟩), tD_seq s h fun y v H1 e1 r s1 q1 => ?_⟩
  obtain ⟨ok, n, hk, h3⟩ := plc_post (post_q q1 e1)
  obtain ⟨o1, o2, o3⟩ := okIn_parts ok
  exact ⟨p, vs, v, ds, y, n, rfl, rfl, h5 _, RepL.dp (h6 _) o2, Rep.dp (r.mono minus_sub) o1, ok, hk, h3 _ H1 (Same.refl _) rfl⟩
/-! ### len(set(xs)) -/
/-- each once, in the order in which they are met -/
def distinct (ns : List Int) : List Int := (PyProof.Rows.firstMet (fun i => ns.getD i 0) ns.length)
def eLenSet (f : DE) : DE := fun σ => f σ >>= fun x => match x with
  | .lst ds => (match intsOf ds with
    | some ns => if ns.length ≤ 4000 then .ok (.int ((distinct ns).length : Nat)) else .stuck
    | none => .stuck)
  | _ => .stuck
theorem ed_lenSet {p p2 q : Pos} (hc : X.calm = true) (hg : Gl X "len") (hm : X.mg "len" = none) (hg2 : Gl X "set") (hm2 : X.mg "set" = none) (ha : ED X W a fa)
    (na : starEach [a] X.env = (false, eval a X.env) :: starEach [] X.env := by rfl) : ED X W (.Call (.Name "len" p) [.Call (.Name "set" p2) [a] [] q] [] pos) (eLenSet fa) :=
  ⟨fun pins s σ H Q I ⟨Oc, Om, σd, sr, h⟩ => by
    refine Call_ (ld_blt I hg hm boot_len ?_)
    refine PyProof.Rows.callWith_builtin1 (PyProof.Rows.args_cons ?_ rfl) rfl rfl
    refine Call_ (ld_blt I hg2 hm2 boot_set ?_)
    have hq : tD (bdOf X) W fa σ H fun x H1 => ∃ (l : Addr) (ns : List Int), x = .ref l ∧ SqL X.K H1 l (ns.map V.int) ∧ ns.length ≤ 4000 ∧ Q (.int ((distinct ns).length : Nat)) H1 := tD_seq sr h fun d v H1 e1 r s1 h1 => by
      cases d with
      | lst ds =>
        simp only at h1
        split at h1
        · rename_i ns hn
          split at h1
          · rename_i hl
            obtain ⟨l, vs, rfl, k1, k2⟩ := (show ∃ a vs, v = .ref a ∧ _ = some (HO.lst vs) ∧ RepL _ _ ds vs by unfold Rep at r; exact r)
            exact ⟨l, ns, rfl, by rw [← k2.intsOf hn]; exact SqL.of (fz_sub k1), hl, h1 _ H1 e1 rfl⟩
          · exact h1.elim
        · exact h1.elim
      | _ => exact h1.elim
    refine PyProof.Rows.callWith_type1 (PyProof.Rows.args_cons (thn (ha.run pins s σ H _ I hq) fun v s1 ⟨x, H1, I1, r1, q1⟩ => PyProof.Rows.args_nil ?_) na) na rfl
    obtain ⟨l, ns, rfl, hq, hl, q1⟩ := q1
    cases r1
    obtain ⟨its, r, pl, hz⟩ := I1.list hq
    have hlen : its.toArray.size = ns.length := by rw [List.size_toArray, ← r.length, List.length_map]
    refine call_set_list (I1.ok.hd hc) pl.isList (by simpa using RZ.intsAre_vals r) (by rw [hlen]; unfold scanBound; omega) fun h' tk hS hk => PyProof.Rows.args_nil ?_
    rw [hlen] at hS
    obtain ⟨ob, es, ep, t, ho, hex, hd, _, _, _, hf, hn⟩ := hS
    have I2 : Inv X pins σ H1 { s1 with heap := h', toks := tk } := I1.kept fun b u e => hk b u (Heap.lt_size e) e
    have hle : (distinct ns).length ≤ ns.length := PyProof.Rows.firstMet_length_le _ _
    exact call_len_set ho hex hd hf (by rw [hn]; unfold distinct at hle; omega) ⟨.int ((distinct ns).length : Nat), H1, I2.tok _, ⟨_, by rw [hn] <;> rfl⟩, q1⟩⟩
/-! ### an object of ours that stands already is tracked from here on -/
theorem Inv.trackX {pins : List (Addr × Obj)} {σ : L2.St} {H : Hp} {s : Shared} {p : Addr} {u : HO} (I : Inv X pins σ H s) (hp : H p = none) (h0 : X.s_0.heap.get? p = none) (hL : p ≠ X.env.locals) (hC : ∀ x c, X.env.cells.lookup x = some c → c ≠ p)
    (hP : ∀ q ∈ X.pn ++ pins, q.1 ≠ p) (new : ObjOk X.prog X.w (upd H p u) s.heap p u) : Inv X pins σ (upd H p u) s where
  ok := I.ok
  os := I.os
  bare := I.bare
  base := by
    have nt : ∀ c v, H c = some v → upd H p u c = some v := fun c v q => by rw [upd_ne (ne_of_none q hp)]; exact q
    exact ⟨I.base.keep, I.base.slot, fun c v q n hx => by rw [upd_ne (fun z => by rw [z, h0] at q; cases q)]; exact I.base.free c v q n hx, I.base.there, fun c xs q => nt _ _ (I.base.tups c xs q),
      fun c v xs q => nt _ _ (I.base.frzs c v xs q), fun c ps q => by
        obtain ⟨more, z⟩ := I.base.tbls c ps q
        exact ⟨more, nt _ _ z⟩⟩
  loc := I.loc
  cell := I.cell
  free := by rw [upd_ne (Ne.symm hL)]; exact I.free
  freeC := fun x c q => by rw [upd_ne (hC x c q)]; exact I.freeC x c q
  pin := fun q hq => by
    obtain ⟨k1, k2, k3⟩ := I.pin q hq
    exact ⟨k1, by rw [upd_ne (hP q hq)]; exact k2, k3⟩
  hok := fun c v q => by
    by_cases hc : c = p
    · subst hc
      rw [upd_same] at q
      cases q
      exact new
    · rw [upd_ne hc] at q
      exact (I.hok c v q).stay (fun _ _ _ z => z) (fun d z => by rw [upd_ne (ne_of_none z hp)]; exact z) fun d xs z => by rw [upd_ne (ne_of_none z hp)]; exact z
  len := I.len
/-- try: body / except x as n: k = n -/
def wKeep (K : PySem.W.Frag) (c : Value) (i j : Nat) (Wout : WX) (Dn : Ends) : WX := fun cls d σ H =>
  ∃ b, PySem.W.exmOne K cls c = some b ∧ (b = true → d = none ∧ ∃ C, cls = .ref C ∧ ∀ p, H p = none → Dn.nx ((((σ.set i (some (.ref p))).set j (some (.ref p))).set i none)) (upd H p (ExcAt p C))) ∧ (b = false → Wout cls d σ H)
theorem ps_tryKeep {x n kn : Str} {c : Value} {i j : Nat} {body : List Stmt} {np kp vp ap hp tp : Pos} {tb : WX → TS} {Wout : WX} (hs : X.stack = X.env :: X.outer) (hf : X.env.frame = some X.env.locals) (hex : X.ex = []) (hN : X.N.Nodup) (hi : X.N[i]? = some n) (hln : X.env.kindOf n = some .local)
    (hj : X.N[j]? = some kn) (hlk : X.env.kindOf kn = some .local) (hc : Names X x c) (tk : Takes X Wout) (hdn : (n == ("__debug__" : Str)) = false) (hcn : (n == ("__classdict__" : Str)) = false)
    (hsw : swapsWith (.Name n vp) (some (.Name kn kp)) ap.line X.env = pure false)
    (hb : ∀ (W : WX) (pn : List (Addr × Obj)) (xe : Value → Shared → Prop), Takes (X.tr pn xe) W → PassesOwn (model X.prog X.w) X.A X.env xe → PSs (X.tr pn xe) body (tb W)) :
    PS X (.Try body [.ExceptHandler (some (.Name x np)) (some n) [.Assign [.Name kn kp] (.Name n vp) ap] hp] [] [] tp) (fun Dn σ H => tb (wKeep X.K c i j Wout Dn) Dn σ H) := by
  refine ⟨fun pins s σ H Dn I h => wpAny_Try_except ?_⟩
  have ok := I.ok
  have hfr : X.A.frames = some (X.env :: X.outer) := ok.frames.trans (by rw [hs])
  have own := hb (wKeep X.K c i j Wout Dn) (X.pn ++ pins) (fun e t => wpAny (model X.prog X.w) X.A (noteFrame e X.env) (fun _ t2 => wpAny (model X.prog X.w) X.A (setFlight e none) (fun _ t3 =>
    wpAny (model X.prog X.w) X.A (handleBy e X.env [.ExceptHandler (some (.Name x np)) (some n) [.Assign [.Name kn kp] (.Name n vp) ap] hp]) (SP X pins Dn) X.xe t3) X.xe t2) X.xe t) ?takes PassesOwn.looking
  case takes =>
    intro u t xx
    obtain ⟨p, G, sI, pins', σ', H', cls, d, rfl, J', nb, up, sky, na, os, ag, b, hb1, hyes, hno⟩ := xx
    have J : Inv X pins σ' H' sI := J'.ofTry ok
    have sky2 : Sky G (X.env :: X.outer) p (Zc cls d) X.env.locals t.heap := by rw [hs] at sky; exact sky
    show wpAny (model X.prog X.w) X.A (noteFrame (.ref p) X.env) _ _ _
    refine Sky.land Zc.steady hfr hf sky2 fun h3 fl up3 => ?_
    have J3 : Inv X pins σ' H' { t with heap := h3 } := J.landed nb fl.1 (up.trans up3) os ag
    obtain ⟨oe, vs, he, hz, hd⟩ := fl.there
    have nfr : p ∉ frs (X.env :: X.outer) := fun hm => by
      obtain ⟨_, o2, e2, hnf⟩ := fl.2.2.1.mem hm
      rw [he] at e2; cases e2
      exact hnf _ hd
    have nL : p ≠ X.env.locals := fun z => nfr (List.mem_filterMap.mpr ⟨X.env, List.mem_cons_self, by rw [hf, z]⟩)
    have nF : p ∉ X.fs := fun hm => by
      obtain ⟨en, h1, h2⟩ := List.mem_filterMap.mp hm
      exact nfr (List.mem_filterMap.mpr ⟨en, List.mem_cons_of_mem _ h1, h2⟩)
    have gI : sI.heap.get? p = none := by
      cases z : sI.heap.get? p with
      | none => rfl
      | some o2 =>
        have w2 := nb p o2 z (by rw [hs]; exact nfr)
        rw [fl.2.1] at w2; cases w2
    have g0 : X.s_0.heap.get? p = none := by
      cases z : X.s_0.heap.get? p with
      | none => rfl
      | some o2 =>
        obtain ⟨o3, w2⟩ := J.base.there p o2 z (by rw [hex]; simp)
        rw [gI] at w2; cases w2
    have S3 := J3.suite he hd na nL nF
    refine wpAny_handleBy_cons (codeAny_handlers_test ?_) (by intro q; cases q)
    have LT : PySem.W.Looks (model X.prog X.w) h3 (typeOf (.ref p)) cls := fun A Q E s2 k q => wpAny_typeOf_ref (k _ _ he) (by rw [hz.1]; exact q)
    have LM := PySem.W.exm_one (M := model X.prog X.w) (J3.kIn) LT hb1
    have test : ∀ {Q : Value → Shared → Prop} {E : Value → Shared → Prop}, Q c { t with heap := h3 } → wpAny (model X.prog X.w) (X.A.mark (some (.ref p))) (eval (.Name x np) X.env) Q E { t with heap := h3 } := fun {Q E} q => by
      obtain ⟨hg, hdbg, hm | ⟨hm, hv, hnn⟩⟩ := hc
      · exact ld_glob (X := X.suite p ((p, oe) :: (X.pn ++ pins))) S3 hg hm q hdbg
      · exact ld_blt (X := X.suite p ((p, oe) :: (X.pn ++ pins))) S3 hg hm hv q hnn hdbg
    refine test (LM.here ?_)
    cases b with
    | true =>
      obtain ⟨hd0, C, hC, hnx⟩ := hyes rfl
      refine codeAny_handlers_suite_as (HandSPX.lands_againZ fl fun h4 fl4 up4 => ?_)
      have J4 : Inv X pins σ' H' { t with heap := h4 } := J.landed nb fl4.1 ((up.trans up3).trans up4) os ag
      obtain ⟨oe4, vs4, he4, hz4, hd4⟩ := fl4.there
      have S4 := J4.suite he4 hd4 na nL nF
      refine store_ok (X := X.suite p ((p, oe4) :: (X.pn ++ pins))) (v := .ref p) S4 hN hi (.inl hln) rfl (fun s5 S5 => ?_) (.inr hln)
      have hlen : i < σ'.length := by
        rw [J.len]
        exact (List.getElem?_eq_some_iff.mp hi).1
      have asg : PS (X.suite p ((p, oe4) :: (X.pn ++ pins))) (.Assign [.Name kn kp] (.Name n vp) ap) (tAsg (tVar i) (gName j)) := ps_set (i := j) hN hj (.inl hlk) (pe_var (i := i) hi (.inl hln) hdn hcn) hsw (.inr hlk)
      refine wpAny_mono ((pss_one asg).run [] s5 _ H' { nx := fun σ6 H6 => σ6 = (σ'.set i (some (.ref p))).set j (some (.ref p)) ∧ H6 = H', rt := fun _ _ => False } S5 ⟨.ref p, by rw [List.getElem?_set_self hlen], rfl, rfl⟩) (fun fl6 s6 hsp => ?_) (fun _ _ z => False.elim z)
      cases fl6 with
      | next =>
        obtain ⟨σ6, H6, S6, rfl, rfl⟩ := hsp
        obtain ⟨g6, n6, _⟩ := S6.pin (p, oe4) (List.mem_append_left _ List.mem_cons_self)
        have cC : ∀ y c2, X.env.cells.lookup y = some c2 → c2 ≠ p := fun y c2 q z => by
          obtain ⟨v2, o2, w1, w2⟩ := S6.cell y c2 q
          rw [z, g6] at w1; cases w1
          rw [hd4] at w2; cases w2
        have pP : ∀ q ∈ X.pn ++ pins, q.1 ≠ p := fun q hq z => by
          have w1 := (J.pin q hq).1
          rw [z, gI] at w1; cases w1
        have T6 : Inv X pins _ (upd H6 p (ExcAt p C)) s6 := Inv.trackX (S6.unsuite ok) n6 g0 nL cC pP ⟨⟨oe4, g6, by rw [hd0, hC] at hz4; exact hz4, vs4, hd4⟩, ⟨oe4, g6⟩, fun a b ⟨o2, w1, w2⟩ k => ⟨o2, k _ w1, w2⟩⟩
        exact gone_ok T6 hN hi hln fun s7 J7 => ⟨_, _, J7, hnx p na⟩
      | brk =>
        obtain ⟨_, _, _, z⟩ := hsp
        exact z.elim
      | cont =>
        obtain ⟨_, _, _, z⟩ := hsp
        exact z.elim
      | ret u =>
        obtain ⟨_, _, _, _, _, z⟩ := hsp
        exact z.elim
    | false =>
      show wpAny _ X.A (handleBy (.ref p) X.env []) _ _ _
      refine wpAny_handleBy_nil ?_
      obtain ⟨k1, k2, k3, oe2, vs2, T, oT, ts2, he2, hz2, hd2, h12, hr2⟩ := id fl
      unfold PySem.passOn
      refine wpAny_bind (wpAny_field he2 hd2 h12 ?_)
      rw [if_neg (show ¬ ((Value.ref T == Value.none) = true) from by simp)]
      have fin : wpAny (model X.prog X.w) X.A (setFlight (.ref p) X.env.frame) (fun _ s4 => wpAny (model X.prog X.w) X.A (throw (.ref p) : Sem Flow) (SP X pins Dn) X.xe s4) X.xe { t with heap := h3 } := by
        rw [hf]
        refine HandSPX.setFlight_upZ fl fun h4 hh4 up4 => wpAny_throw (tk _ _ ?_)
        exact ⟨p, G, sI, pins, σ', H', cls, d, rfl, J, nb, (up.trans up3).trans up4, .inr (.inr (by rw [hs]; exact hh4)), na, os, ag, hno rfl⟩
      first
        | exact wpAny_bind (wpAny_pure (wpAny_bind fin))
        | exact wpAny_bind fin
  refine wpAny_mono (own.run [] s σ H Dn (I.toTry _) h) (fun fl s1 hsp => ?_) (fun e s1 he => he)
  cases fl with
  | next =>
    obtain ⟨σ2, H2, J2, q⟩ := hsp
    exact wpAny_execs_nil ⟨σ2, H2, J2.ofTry ok, q⟩
  | brk =>
    obtain ⟨σ2, H2, J2, q⟩ := hsp
    exact ⟨σ2, H2, J2.ofTry ok, q⟩
  | cont =>
    obtain ⟨σ2, H2, J2, q⟩ := hsp
    exact ⟨σ2, H2, J2.ofTry ok, q⟩
  | ret u =>
    obtain ⟨v2, σ2, H2, J2, r, q⟩ := hsp
    exact ⟨v2, σ2, H2, J2.ofTry ok, r, q⟩
end
end FF
set_option maxHeartbeats 4000000
/-! try, isinstance of errors, zip and enumerate, the head's facts, the end -/
namespace FF
open PySem PySem.Spec PyProof.Rows L2
section
variable {X : Cx} {W : WX} {e a b tg : Expr} {f fa fb : DE} {pos : Pos}
/-! ### try: .. except C as n: k = n -/
def sTry (names : List Str) (i j : Nat) (g : DS) : DS := fun σ => match g σ with
  | .exc c σ1 => if c ∈ names ∧ i < σ1.length ∧ j < σ1.length then .next (((σ1.set i (some (.exc c))).set j (some (.exc c))).set i none) else .stuck
  | o => o
theorem sd_try {x n kn : Str} {C0 : Addr} {i j : Nat} {body : List Stmt} {np kp vp ap hp tp : Pos} {g : DS} (names : List Str) (hs : X.stack = X.env :: X.outer) (hf : X.env.frame = some X.env.locals) (hex : X.ex = []) (hN : X.N.Nodup) (hi : X.N[i]? = some n) (hln : X.env.kindOf n = some .local)
    (hj : X.N[j]? = some kn) (hlk : X.env.kindOf kn = some .local) (hg : Gl X x) (hm : X.mg x = some (.ref C0)) (tk : Takes X W) (hcat : ∀ c ∈ names, ∀ C, X.mg c = some (.ref C) → PySem.W.exmOne X.K (.ref C) (.ref C0) = some true)
    (hb : ∀ (W : WX) (pn : List (Addr × Obj)) (xe : Value → Shared → Prop), Takes (X.tr pn xe) W → PassesOwn (model X.prog X.w) X.A X.env xe → SDs (X.tr pn xe) W body g)
    (hsw : swapsWith (.Name n vp) (some (.Name kn kp)) ap.line X.env = pure false := by rfl)
    (hdx : (x == ("__debug__" : Str)) = false := by decide) (hdn : (n == ("__debug__" : Str)) = false := by decide) (hcn : (n == ("__classdict__" : Str)) = false := by decide) :
    SD X W (.Try body [.ExceptHandler (some (.Name x np)) (some n) [.Assign [.Name kn kp] (.Name n vp) ap] hp] [] [] tp) (sTry names i j g) :=
  ps_imp (ps_tryKeep (c := .ref C0) (tb := fun W2 => tS (bdOf X) W2 g) hs hf hex hN hi hln hj hlk ⟨hg, hdx, .inl hm⟩ tk hdn hcn hsw hb) fun Dn σ H ⟨Oc, Om, σd, s, h⟩ => by
    refine ⟨Oc, Om, σd, s, ?_⟩
    unfold sTry at h
    cases q : g σd with
    | exc c σ1 =>
      rw [q] at h
      replace h : (if c ∈ names ∧ i < σ1.length ∧ j < σ1.length then Out.next (((σ1.set i (some (.exc c))).set j (some (.exc c))).set i none) else .stuck).all (bdOf X) W Oc Om H Dn := h
      by_cases z : c ∈ names ∧ i < σ1.length ∧ j < σ1.length
      case neg => rw [if_neg z] at h; exact h.elim
      rw [if_pos z] at h
      intro C σ' Om' H' hc s' x'
      refine ⟨true, hcat c z.1 C hc, fun _ => ⟨rfl, C, rfl, fun p hp => ?_⟩, fun q => nomatch q⟩
      have s2 := s'.same (same_upd hp (o := ExcAt p C))
      have r : Rep (bdOf X) (fz (upd H' p (ExcAt p C)) Oc Om') (.exc c) (.ref p) := by
        unfold Rep
        exact ⟨p, C, rfl, hc, .inl (fz_new s'.1 hp)⟩
      refine h _ Om' _ (((s2.setF' z.2.1 r).setF' (by simpa using z.2.2) r).drop) (x'.trans (.of_same (same_upd hp)))
    | next σ1 => rw [q] at h; exact h
    | ret d σ1 => rw [q] at h; exact h
    | brk σ1 => rw [q] at h; exact h
    | cont σ1 => rw [q] at h; exact h
    | stuck => rw [q] at h; exact h
/-! ### isinstance(e, C), e an error that was kept -/
def eIsE (tbl : Str → Option Bool) (f : DE) : DE := fun σ => f σ >>= fun d => match d with
  | .exc c => (match tbl c with
    | some b => .ok (.bl b)
    | none => .stuck)
  | _ => .stuck
def rIsX (K : PySem.W.Frag) : List V → Hp → VK → Prop := fun xs H Q => ∃ (p C : Addr) (c : V) (cv : Value) (b : Bool), xs = [.ref p, c] ∧ Rd H p (ExcAt p C) ∧ ExcC K C ∧ (∀ u, RelV c u → u = cv) ∧ PySem.W.kitOne K (.ref C) cv = some b ∧ Q (.bl b) H
theorem call_isX : CallR X (.builtin "isinstance") (rIsX X.K) := by
  intro pins s σ H xs us Q I r h
  obtain ⟨p, C, c, cv, b, rfl, hp, F, hcv, hk, q⟩ := h
  obtain ⟨u1, u2, rfl, r1, r2⟩ := vals2 r
  cases r1
  cases hcv _ r2
  obtain ⟨⟨oe, ho, hz, vs, hv⟩, _⟩ := Rd.ok hp I.hok
  have J : PySem.W.InstAt s.heap p oe C none := by
    obtain ⟨oc, od, oda, osl⟩ := oe
    obtain ⟨h1, h2⟩ := hz
    dsimp only at h1 h2 hv
    subst h1 h2 hv
    exact ⟨ho, rfl, rfl, trivial⟩
  exact PySem.W.kia_one (PySem.W.handS_kitx_exc F.hg F.hk F.hs F.hd F.ha F.hn F.ht F.hm) I.kIn J hk (fun z => nomatch z) fun tk => ⟨.bl b, H, I.tok tk, rfl, q⟩
theorem ed_isE {y : Str} {cvv : V} {cv : Value} {p p2 : Pos} {tbl : Str → Option Bool} (hg : Gl X "isinstance") (hm : X.mg "isinstance" = none) (ha : ED X W a fa) (hT : PE X (.Name y p2) (tC cvv)) (hcv : ∀ u, RelV cvv u → u = cv)
    (hF : ∀ c b, tbl c = some b → ∀ C, X.mg c = some (.ref C) → ExcC X.K C ∧ PySem.W.kitOne X.K (.ref C) cv = some b)
    (he : starEach [a, .Name y p2] X.env = (false, eval a X.env) :: starEach [.Name y p2] X.env := by rfl) (hpl : (backTo pos (starEach [.Name y p2] X.env)).any (·.1) = false := by rfl) : ED X W (.Call (.Name "isinstance" p) [a, .Name y p2] [] pos) (eIsE tbl fa) :=
  pe_imp (pe_callB call_isX hg hm (by decide +kernel) (pa_cons ha (pa_cons hT pa_nil) he) (by decide) (by decide) he hpl) fun σ H Q ⟨Oc, Om, σd, s, h⟩ => tD_seq s h fun d v H1 e1 r s1 h1 => by
    cases d with
    | exc c =>
      replace h1 : (match tbl c with
        | some b => R.ok (D.bl b)
        | none => .stuck).post _ _ := h1
      split at h1
      · rename_i b q
        obtain ⟨p, C, rfl, k1, k2⟩ := (show ∃ a C, v = .ref a ∧ (bdOf X).mg c = some (.ref C) ∧ Rd _ a (ExcAt a C) by unfold Rep at r; exact r)
        obtain ⟨F, k⟩ := hF c b q C k1
        exact ⟨p, C, cvv, cv, b, rfl, Same.rd minus_sub k2, F, hcv, k, h1 _ H1 e1 rfl⟩
      · exact h1.elim
    | _ => exact h1.elim
/-! ### zip, enumerate -/
def zipT : List D → List D → List D
  | x :: xs, y :: ys => .tup [x, y] :: zipT xs ys
  | _, _ => []
theorem zipT_length : ∀ xs ys : List D, (zipT xs ys).length = min xs.length ys.length
  | [], ys => by simp [zipT]
  | x :: xs, [] => by simp [zipT]
  | x :: xs, y :: ys => by simp [zipT, zipT_length xs ys, Nat.succ_min_succ]
theorem zipT_at : ∀ (xs ys : List D) (i : Nat) (x y : D), xs[i]? = some x → ys[i]? = some y → (zipT xs ys)[i]? = some (.tup [x, y])
  | [], _, _, _, _, h, _ => by simp at h
  | _ :: _, [], _, _, _, _, h => by simp at h
  | x0 :: xs, y0 :: ys, 0, x, y, h, h' => by
    simp at h h'
    subst h h'
    rfl
  | x0 :: xs, y0 :: ys, i + 1, x, y, h, h' => by
    simp only [zipT, List.getElem?_cons_succ]
    exact zipT_at xs ys i x y (by simpa using h) (by simpa using h')
theorem pair_new {B : Bd} {H : Hp} {Oc Om : List Addr} {G : Hp} {T : Addr} {x y : V} {d e : D} (hO : ∀ a ∈ Oc ++ Om, H a ≠ none) (hT : H T = none) (sub : Same G (fz H Oc Om)) (r1 : Rep B G d x) (r2 : Rep B G e y) :
    Rep B (fz (upd H T (.tup [x, y])) Oc Om) (.tup [d, e]) (.ref T) := rep_tupNew hO hT (.cons (r1.mono sub) (.cons (r2.mono sub) .nil))
theorem yld_zip {B : Bd} {Oc Om : List Addr} {H : Hp} {p q : Addr} {ds es : List D} {vs ws : List V} (h1 : fz H Oc Om p = some (.lst vs)) (h2 : fz H Oc Om q = some (.lst ws)) (r1 : RepL B (fz H Oc Om) ds vs) (r2 : RepL B (fz H Oc Om) es ws) : Yld B (Itz B.K p q) Oc Om H (zipT ds es) := by
  have hl : (zipT ds es).length = min vs.length ws.length := by rw [zipT_length, r1.length, r2.length]
  refine ⟨YPair (fun i => vs[i]?) (fun i => ws[i]?), by
    rw [hl]
    exact (walk_zip (xs := vs) (ys := ws) rfl).mono (fun H' e => ⟨SqL.of (e _ _ h1), SqL.of (e _ _ h2)⟩) (fun i H' x H'' _ _ y => y), fun i H' x H'' hi e y => ?_⟩
  obtain ⟨T, x1, y1, rfl, hT, rfl, k1, k2⟩ := y
  refine ⟨same_upd hT, fun Oc' Om' hO sub => ?_⟩
  obtain ⟨d, e1, q1⟩ := rep_at r1 (Same.refl _) k1
  obtain ⟨d2, e2, q2⟩ := rep_at r2 (Same.refl _) k2
  exact ⟨_, zipT_at _ _ _ _ _ e1 e2, pair_new hO hT sub q1 q2⟩
theorem yld_zipT {B : Bd} {Oc Om : List Addr} {H : Hp} {p q : Addr} {ds es : List D} {vs ws : List V} (h1 : SqT B.K (fz H Oc Om) p vs) (h2 : SqT B.K (fz H Oc Om) q ws) (r1 : RepL B (fz H Oc Om) ds vs) (r2 : RepL B (fz H Oc Om) es ws)
    (w : Walk (RZ.ItzT B.K p q) (min vs.length ws.length) (fun H => SqT B.K H p vs ∧ SqT B.K H q ws) (YPair (fun i => vs[i]?) (fun i => ws[i]?))) : Yld B (RZ.ItzT B.K p q) Oc Om H (zipT ds es) := by
  have hl : (zipT ds es).length = min vs.length ws.length := by rw [zipT_length, r1.length, r2.length]
  refine ⟨YPair (fun i => vs[i]?) (fun i => ws[i]?), by
    rw [hl]
    exact w.mono (fun H' e => ⟨Same.seqT e h1, Same.seqT e h2⟩) (fun i H' x H'' _ _ y => y), fun i H' x H'' hi e y => ?_⟩
  obtain ⟨T, x1, y1, rfl, hT, rfl, k1, k2⟩ := y
  refine ⟨same_upd hT, fun Oc' Om' hO sub => ?_⟩
  obtain ⟨d, e1, q1⟩ := rep_at r1 (Same.refl _) k1
  obtain ⟨d2, e2, q2⟩ := rep_at r2 (Same.refl _) k2
  exact ⟨_, zipT_at _ _ _ _ _ e1 e2, pair_new hO hT sub q1 q2⟩
theorem walk_zipT {K : PySem.W.Frag} {p q : Addr} {xs ys : List V} : Walk (RZ.ItzT K p q) (min xs.length ys.length) (fun H => SqT K H p xs ∧ SqT K H q ys) (YPair (fun i => xs[i]?) (fun i => ys[i]?)) :=
  ⟨fun i H hi g => ⟨xs, ys, xs[i]'(by omega), ys[i]'(by omega), g.1, g.2, List.getElem?_eq_getElem _, List.getElem?_eq_getElem _⟩, fun H g => ⟨xs, ys, g.1, g.2, by omega⟩,
    fun i H x H' hi g ⟨T, u, v, k1, k2, k3, k4, k5⟩ => ⟨T, u, v, k1, k2, k3, k4 xs g.1, k5 ys g.2⟩⟩
def iZipD (fa fb : DE) : Sd → R (List D) := fun σ => fa σ >>= fun x => fb σ >>= fun y => match x, y with
  | .lst xs, .lst ys => .ok (zipT xs ys)
  | .tup xs, .tup ys => .ok (zipT xs ys)
  | _, _ => .stuck
theorem id_zip {elts : List Expr} {kk : Nat} {tpos p : Pos} (hg : Gl X "zip") (hm : X.mg "zip" = none) (ha : ED X W a fa) (hb : ED X W b fb) (hs : starEach [a, b] X.env = (false, eval a X.env) :: starEach [b] X.env := by rfl) (hs2 : starEach [b] X.env = (false, eval b X.env) :: starEach [] X.env := by rfl)
    (hpl : (backTo pos (starEach [b] X.env)).any (·.1) = false := by rfl) : ID X W (.Tuple elts kk tpos) (.Call (.Name "zip" p) [a, b] [] pos) (iZipD fa fb) :=
  pi_imp (RZ.pi_zipA hg hm (pa_cons ha (pa_cons hb pa_nil hs2) hs) hs hpl) fun σ H Q ⟨Oc, Om, σd, s, h⟩ => tI_seq s h fun x u H1 e1 r s1 h1 => tI_seq s1 h1 fun y v H2 e2 r2 s2 h2 => by
    have rx := r.mono (same_minus (O := Oc ++ Om) e2)
    cases x <;> cases y <;> first | exact h2.elim | skip
    case lst.lst xs ys =>
      obtain ⟨p, vs, rfl, k1, k2⟩ := (show ∃ a vs, u = .ref a ∧ _ = some (HO.lst vs) ∧ RepL _ _ xs vs by unfold Rep at rx; exact rx)
      obtain ⟨q, ws, rfl, k3, k4⟩ := (show ∃ a vs, v = .ref a ∧ _ = some (HO.lst vs) ∧ RepL _ _ ys vs by unfold Rep at r2; exact r2)
      exact ⟨p, q, vs, ws, rfl, .inl ⟨SqL.of (fz_sub k1), SqL.of (fz_sub k3), h2 _ H2 (Same.refl _) (yld_zip k1 k3 k2 k4)⟩⟩
    case tup.tup xs ys =>
      obtain ⟨p, vs, rfl, k1, k2⟩ := (rep_sq rx)
      obtain ⟨q, ws, rfl, k3, k4⟩ := (rep_sq r2)
      exact ⟨p, q, vs, ws, rfl, .inr ⟨Same.seqT minus_sub k1, Same.seqT minus_sub k3, h2 _ H2 (Same.refl _) (yld_zipT k1 k3 k2 k4 walk_zipT)⟩⟩
def enumT (k : Nat) : List D → List D
  | [] => []
  | d :: ds => .tup [.int (k : Int), d] :: enumT (k + 1) ds
theorem enumT_length : ∀ (ds : List D) (k : Nat), (enumT k ds).length = ds.length
  | [], _ => rfl
  | d :: ds, k => by simp [enumT, enumT_length ds]
theorem enumT_at : ∀ (ds : List D) (k i : Nat) (d : D), ds[i]? = some d → (enumT k ds)[i]? = some (.tup [.int ((k + i : Nat) : Int), d])
  | [], _, _, _, h => by simp at h
  | d0 :: ds, k, 0, d, h => by
    simp at h
    subst h
    rfl
  | d0 :: ds, k, i + 1, d, h => by
    simp only [enumT, List.getElem?_cons_succ]
    rw [enumT_at ds (k + 1) i d (by simpa using h)]
    have : k + 1 + i = k + (i + 1) := by omega
    rw [this]
theorem yld_enum {B : Bd} {Oc Om : List Addr} {H : Hp} {p : Addr} {ds : List D} {vs : List V} (h1 : fz H Oc Om p = some (.lst vs)) (r1 : RepL B (fz H Oc Om) ds vs) : Yld B (Ite B.K p) Oc Om H (enumT 0 ds) := by
  have hl : (enumT 0 ds).length = vs.length := by rw [enumT_length, r1.length]
  refine ⟨YPair (fun i => some (.int (i : Nat))) (fun i => vs[i]?), by
    rw [hl]
    exact (walk_enum (xs := vs)).mono (fun H' e => SqL.of (e _ _ h1)) (fun i H' x H'' _ _ y => y), fun i H' x H'' hi e y => ?_⟩
  obtain ⟨T, x1, y1, rfl, hT, rfl, k1, k2⟩ := y
  refine ⟨same_upd hT, fun Oc' Om' hO sub => ?_⟩
  obtain ⟨d, e1, q1⟩ := rep_at r1 (Same.refl _) k2
  cases k1
  refine ⟨_, enumT_at _ _ _ _ e1, pair_new hO hT sub ?_ q1⟩
  rw [Nat.zero_add]
  rfl
end
/-! ### the head's facts -/
def excCB (K : PySem.W.Frag) (x : Str) : Bool :=
  He.eqO (PySem.W.findIn K (.ref (He.ga K x)) "__getattribute__") (some (some (.builtin "BaseException.__getattribute__"))) && (He.eqO (PySem.W.findIn K (.ref (He.ga K x)) "__getattr__") (some none) && (decide (PySem.W.subIn K (.ref (He.ga K x)) (.type "BaseException") = some true) && (PySem.W.hasDictIn K (He.ga K x) &&
    (He.eqO (PySem.W.findIn K (.ref (He.ga K x)) "__class__") (some (some (.builtin "object.__class__"))) && (He.eqO (PySem.W.specialIn K (.builtin "object.__class__") "__get__") (some (some (.builtin "getset_descriptor.__get__"))) && (decide (PySem.W.takesIn K (.builtin "object.__class__") = some true) && decide (PySem.W.mroIn K (He.ga K x) (.type "object") = some true)))))))
theorem excCB_ok {K : PySem.W.Frag} {x : Str} (h : excCB K x = true) : ExcC K (He.ga K x) := by
  unfold excCB at h
  simp only [Bool.and_eq_true, decide_eq_true_eq] at h
  obtain ⟨h1, h2, h3, h4, h5, h6, h7, h8⟩ := h
  exact ⟨He.eqO_ok h1, He.eqO_ok h2, h3, h4, He.eqO_ok h5, He.eqO_ok h6, h7, h8⟩
/-- a fact of the written part that is looked at -/
structure Ask where
  ok : PySem.W.Frag → Bool
abbrev AlX : Type := He.AlD × Bool
def obsX (fa : List He.Fa) (fn : List He.DefD) (as : List (PySem.W.Frag → Bool)) (K : PySem.W.Frag) : AlX := (He.obsD fa fn K, as.all fun a => a K)
def valX (fn : List He.DefD) : AlX := (He.valD fn, true)
def SaysX (fa : List He.Fa) (fn : List He.DefD) (as : List (PySem.W.Frag → Bool)) (K : PySem.W.Frag) : Prop := obsX fa fn as K = valX fn
def obsXG (n : Nat) (fa : List He.Fa) (fn : List He.DefD) (as : List (PySem.W.Frag → Bool)) (g : Addr → Option Obj) : AlX := obsX fa fn as (He.frG g (He.asD g n))
def hookX (n : Nat) (fa : List He.Fa) (fn : List He.DefD) (as : List (PySem.W.Frag → Bool)) : PySem.W.Hook where
  α := AlX
  obs := fun s => obsXG n fa fn as s.heap.get?
  val := fun _ => valX fn
  says := fun _ h => ∃ K : PySem.W.Frag, K.In h ∧ SaysX fa fn as K
  of := fun _ _ e => ⟨_, He.frG_in, e⟩
  keeps := fun _ _ _ ⟨K, hK, c⟩ k => ⟨K, PySem.W.Frag.In.keeps hK k, c⟩
theorem obsXG_eq {n : Nat} {fa : List He.Fa} {fn : List He.DefD} {as : List (PySem.W.Frag → Bool)} {g : Addr → Option Obj} {s : Shared} (h : ∀ a, g a = s.heap.get? a) : obsXG n fa fn as g = (hookX n fa fn as).obs s := by
  have e : g = s.heap.get? := funext h
  rw [e] <;> rfl
section
variable {fa : List He.Fa} {fn : List He.DefD} {as : List (PySem.W.Frag → Bool)} {K : PySem.W.Frag}
theorem SaysX.d (c : SaysX fa fn as K) : He.SaysD fa fn K := congrArg (fun z : AlX => z.1) c
theorem SaysX.ask (c : SaysX fa fn as K) (i : Nat) {a : PySem.W.Frag → Bool} (h : as[i]? = some a := by rfl) : a K = true := by
  have c1 : (as.all fun a => a K) = true := congrArg (fun z : AlX => z.2) c
  exact List.all_eq_true.mp c1 a (List.mem_of_getElem? h)
end
end FF
set_option maxHeartbeats 4000000
/-! assignments to several names; facts by their places; words for the printed derivations -/
namespace FF
open PySem PySem.Spec PyProof.Rows L2
section
variable {X : Cx} {W : WX} {e a b c tg : Expr} {f fa fb fc : DE} {pos : Pos}
/-! ### t = e, t a tuple of names -/
def sAsg (t : Tgt) (f : DE) : DS := fun σ => (f σ).toOut σ fun d => (t.put d σ).run .next
theorem sd_asg (t : Tgt) (he : ED X W e f) (hg : PG X tg (t.g X.K)) (hs : swapsWithSole [tg] e pos.line X.env = pure false := by rfl) (hw : swappedStores [tg] e X.env = pure none := by rfl)
    (h1 : (assignEach [tg] X.env).map (·.2) = [assign tg X.env] := by rfl) : SD X W (.Assign [tg] e pos) (sAsg t f) :=
  ps_imp (ps_asg he hg hs hw h1) fun Dn σ H ⟨Oc, Om, σd, s, h⟩ => toOut_seq s h fun d v H1 e1 r s1 h1 => by
    cases q : t.put d σd with
    | ok σ1 =>
      rw [q] at h1
      exact Tgt.put_ok (B := bdOf X) t s1 r q fun σ2 s2 _ => h1 σ2 Om H1 s2 .refl
    | exc c => rw [q] at h1; exact h1.elim
    | stuck => rw [q] at h1; exact h1.elim
/-- x, y = a, b -/
def sPar (i j : Nat) (fa fb : DE) : DS := fun σ => (fa σ).toOut σ fun d => (fb σ).toOut σ fun d2 => if i < σ.length ∧ j < σ.length then .next ((σ.set i (some d)).set j (some d2)) else .stuck
theorem sd_par {i j : Nat} {x y : Str} {px py pt : Pos} {kt k2 : Nat} {pt2 : Pos} (hc : X.calm = true) (hN : X.N.Nodup) (hi : X.N[i]? = some x) (hj : X.N[j]? = some y) (hij : i ≠ j)
    (hx : X.env.scope.names.lookup x = some .local) (hy : X.env.scope.names.lookup y = some .local) (ha : ED X W a fa) (hb : ED X W b fb)
    (hw : swappedStores [.Tuple [.Name x px, .Name y py] kt pt] (.Tuple [a, b] k2 pt2) X.env = pure (some [x, y]))
    (hs1 : starEach (a :: [b]) X.env = (false, eval a X.env) :: starEach [b] X.env := by rfl) (hs2 : starEach (b :: []) X.env = (false, eval b X.env) :: starEach [] X.env := by rfl)
    (hs : swapsWithSole [.Tuple [.Name x px, .Name y py] kt pt] (.Tuple [a, b] k2 pt2) pos.line X.env = pure false := by rfl) :
    SD X W (.Assign [.Tuple [.Name x px, .Name y py] kt pt] (.Tuple [a, b] k2 pt2) pos) (sPar i j fa fb) :=
  ps_imp (ps_par hc hN hi hj hij hx hy (pa_cons ha (pa_cons hb pa_nil hs2) hs1) hw hs) fun Dn σ H ⟨Oc, Om, σd, s, h⟩ => toOut_seq s h fun d v H1 e1 r s1 h1 => toOut_seq s1 h1 fun d2 v2 H2 e2 r2 s2 h2 => by
    split at h2
    · rename_i q
      exact ⟨v, v2, rfl, h2 _ Om H2 ((s2.setF' q.1 (r.mono (same_minus e2))).setF' (by simpa using q.2) r2) .refl⟩
    · exact h2.elim
/-- x, y, z = a, b, c -/
def sPar3 (i j l : Nat) (fa fb fc : DE) : DS := fun σ => (fa σ).toOut σ fun d => (fb σ).toOut σ fun d2 => (fc σ).toOut σ fun d3 => if i < σ.length ∧ j < σ.length ∧ l < σ.length then .next (((σ.set i (some d)).set j (some d2)).set l (some d3)) else .stuck
theorem sd_par3 {i j l : Nat} {x y z : Str} {px py pz pt : Pos} {kt k2 : Nat} {pt2 : Pos} (hc : X.calm = true) (hN : X.N.Nodup) (hi : X.N[i]? = some x) (hj : X.N[j]? = some y) (hl : X.N[l]? = some z) (hij : i ≠ j) (hil : i ≠ l) (hjl : j ≠ l)
    (hx : X.env.scope.names.lookup x = some .local) (hy : X.env.scope.names.lookup y = some .local) (hz : X.env.scope.names.lookup z = some .local) (ha : ED X W a fa) (hb : ED X W b fb) (hd : ED X W c fc)
    (hw : swappedStores [.Tuple [.Name x px, .Name y py, .Name z pz] kt pt] (.Tuple [a, b, c] k2 pt2) X.env = pure (some [x, y, z]))
    (hs1 : starEach (a :: [b, c]) X.env = (false, eval a X.env) :: starEach [b, c] X.env := by rfl) (hs2 : starEach (b :: [c]) X.env = (false, eval b X.env) :: starEach [c] X.env := by rfl) (hs3 : starEach (c :: []) X.env = (false, eval c X.env) :: starEach [] X.env := by rfl)
    (hs : swapsWithSole [.Tuple [.Name x px, .Name y py, .Name z pz] kt pt] (.Tuple [a, b, c] k2 pt2) pos.line X.env = pure false := by rfl) :
    SD X W (.Assign [.Tuple [.Name x px, .Name y py, .Name z pz] kt pt] (.Tuple [a, b, c] k2 pt2) pos) (sPar3 i j l fa fb fc) :=
  ps_imp (ps_par3 hc hN hi hj hl hij hil hjl hx hy hz (pa_cons ha (pa_cons hb (pa_cons hd pa_nil hs3) hs2) hs1) hw hs) fun Dn σ H ⟨Oc, Om, σd, s, h⟩ => toOut_seq s h fun d v H1 e1 r s1 h1 => toOut_seq s1 h1 fun d2 v2 H2 e2 r2 s2 h2 => toOut_seq s2 h2 fun d3 v3 H3 e3 r3 s3 h3 => by
    split at h3
    · rename_i q
      exact ⟨v, v2, v3, rfl, h3 _ Om H3 (((s3.setF' q.1 (r.mono (same_minus (e2.trans e3)))).setF' (by simpa using q.2.1) (r2.mono (same_minus e3))).setF' (by simpa using q.2.2) r3) .refl⟩
    · exact h3.elim
end
/-! ### words -/
theorem rm_of {X : Cx} {k : Nat} (r : Room k X.A) : Rm X := by
  have := r.un
  show X.A.units + 200 < cLine
  omega
theorem takesW0 {X : Cx} : Takes X W0 := takes0
theorem bt_len : bootBuiltins "len" = some (.builtin "len") := by decide +kernel
theorem bt_all : bootBuiltins "all" = some (.builtin "all") := by decide +kernel
theorem bt_any : bootBuiltins "any" = some (.builtin "any") := by decide +kernel
theorem bt_sum : bootBuiltins "sum" = some (.builtin "sum") := by decide +kernel
theorem bt_min : bootBuiltins "min" = some (.builtin "min") := by decide +kernel
theorem bt_max : bootBuiltins "max" = some (.builtin "max") := by decide +kernel
theorem bt_abs : bootBuiltins "abs" = some (.builtin "abs") := by decide +kernel
theorem bt_list : bootBuiltins "list" = some (.type "list") := by decide +kernel
theorem bt_tuple : bootBuiltins "tuple" = some (.type "tuple") := by decide +kernel
theorem bt_int : bootBuiltins "int" = some (.type "int") := by decide +kernel
theorem bt_bool : bootBuiltins "bool" = some (.type "bool") := by decide +kernel
theorem bt_str : bootBuiltins "str" = some (.type "str") := by decide +kernel
theorem bt_ve : bootBuiltins "ValueError" = some (.type "ValueError") := by decide +kernel
/-! ### facts -/
structure Facts (fa : List He.Fa) (fn : List He.DefD) (as : List (PySem.W.Frag → Bool)) (K : PySem.W.Frag) (mg : Str → Option Value) : Prop where
  ex : ∃ h : Heap, K.In h ∧ h.Ns mainGlobals mg ∧ SaysX fa fn as K
section
variable {fa : List He.Fa} {fn : List He.DefD} {as : List (PySem.W.Frag → Bool)} {K : PySem.W.Frag} {mg : Str → Option Value}
theorem Facts.glo (T : Facts fa fn as K mg) (i : Nat) {x : Str} (h : fa[i]? = some (.glo x) := by rfl) : mg x = some (.ref (He.ga K x)) := by
  obtain ⟨hp, X, G, c⟩ := T.ex
  exact He.glo_ok X G (c.d.fact i h)
theorem Facts.free (T : Facts fa fn as K mg) (i : Nat) {x : Str} (h : fa[i]? = some (.free x) := by rfl) : mg x = none := by
  obtain ⟨hp, X, G, c⟩ := T.ex
  exact He.free_ok X G (c.d.fact i h)
theorem Facts.int {P : Program} {w : World} (T : Facts fa fn as K mg) (i : Nat) {x : Str} {n : Int} (h : fa[i]? = some (.int x n) := by rfl) : Glb ⟨K, mg, P, w⟩ x (.int n) := by
  obtain ⟨hp, X, G, c⟩ := T.ex
  obtain ⟨t, e⟩ := He.int_ok X G (c.d.fact i h)
  exact ⟨.int n, _, e, ⟨t, rfl⟩, fun _ => rfl⟩
theorem Facts.str {P : Program} {w : World} (T : Facts fa fn as K mg) (i : Nat) {x z : Str} (h : fa[i]? = some (.str x z) := by rfl) : Glb ⟨K, mg, P, w⟩ x (.str z) := by
  obtain ⟨hp, X, G, c⟩ := T.ex
  obtain ⟨t, e⟩ := He.str_ok X G (c.d.fact i h)
  exact ⟨.str z, _, e, ⟨t, rfl⟩, fun _ => rfl⟩
theorem Facts.exc (T : Facts fa fn as K mg) (i j : Nat) {x : Str} (h : fa[i]? = some (.glo x) := by rfl) (h2 : fa[j]? = some (.exc x) := by rfl) : ExcF K mg x (He.ga K x) := by
  obtain ⟨hp, X, G, c⟩ := T.ex
  obtain ⟨e1, e2, e3, e4⟩ := He.exc_ok (c.d.fact j h2)
  exact ⟨He.glo_ok X G (c.d.fact i h), e1, e2, e3, e4⟩
theorem Facts.exm (T : Facts fa fn as K mg) (i : Nat) {x y : Str} {b : Bool} (h : fa[i]? = some (.exm x y b) := by rfl) : PySem.W.exmOne K (.ref (He.ga K x)) (.ref (He.ga K y)) = some b := by
  obtain ⟨hp, X, G, c⟩ := T.ex
  exact He.exm_ok (c.d.fact i h)
theorem Facts.ask (T : Facts fa fn as K mg) (i : Nat) {a : PySem.W.Frag → Bool} (h : as[i]? = some a := by rfl) : a K = true := by
  obtain ⟨hp, X, G, c⟩ := T.ex
  exact c.ask i h
theorem Facts.def_ (T : Facts fa fn as K mg) (i : Nat) {d : He.DefD} (h : fn[i]? = some d := by rfl) : ∃ fd, FunD K d.name d.qual d.params d.body d.scope (d.dvs K) (d.kws K) (He.fAd K d.at_) fd := by
  obtain ⟨hp, X, G, c⟩ := T.ex
  exact c.d.def_ i h
end
/-- a tuple of ints (of texts) of the module's top -/
def tupC (x : Str) (ds : List D) (K : PySem.W.Frag) : Bool := match K.lookup (He.ga K x) with
  | some ⟨.type c, none, .seq its _, _⟩ => decide (c = "tuple") && (decide (its.size ≤ sizeLine) && flatC ds its.toList)
  | _ => false
where flatC : List D → List Value → Bool
  | [], [] => true
  | .int i :: ds, .int j _ :: vs => decide (i = j) && flatC ds vs
  | .str x :: ds, .str y _ :: vs => decide (x = y) && flatC ds vs
  | _, _ => false
theorem flatC_ok {B : Bd} {G : Hp} : ∀ {ds : List D} {us : List Value}, tupC.flatC ds us = true → ∃ vs, Vals vs us ∧ RepL B G ds vs
  | [], [], _ => ⟨[], .nil, .nil⟩
  | .int i :: ds, .int j t :: us, h => by
    simp only [tupC.flatC, Bool.and_eq_true, decide_eq_true_eq] at h
    obtain ⟨vs, h1, h2⟩ := flatC_ok (B := B) (G := G) h.2
    exact ⟨.int i :: vs, .cons ⟨t, by rw [h.1]⟩ h1, .cons rfl h2⟩
  | .str x :: ds, .str y t :: us, h => by
    simp only [tupC.flatC, Bool.and_eq_true, decide_eq_true_eq] at h
    obtain ⟨vs, h1, h2⟩ := flatC_ok (B := B) (G := G) h.2
    exact ⟨.str x :: vs, .cons ⟨t, by rw [h.1]⟩ h1, .cons rfl h2⟩
theorem flatC_uniq {B : Bd} {G G' : Hp} : ∀ {ds : List D} {us : List Value} {vs : List V}, tupC.flatC ds us = true → RepL B G ds vs → RepL B G' ds vs
  | [], [], _, _, h => h
  | .int i :: ds, .int j t :: us, _, h, r => by
    simp only [tupC.flatC, Bool.and_eq_true, decide_eq_true_eq] at h
    obtain ⟨v, w, rfl, r1, r2⟩ := r
    exact ⟨v, w, rfl, r1, flatC_uniq h.2 r2⟩
  | .str x :: ds, .str y t :: us, _, h, r => by
    simp only [tupC.flatC, Bool.and_eq_true, decide_eq_true_eq] at h
    obtain ⟨v, w, rfl, r1, r2⟩ := r
    exact ⟨v, w, rfl, r1, flatC_uniq h.2 r2⟩
theorem tupC_ok {P : Program} {w : World} {K : PySem.W.Frag} {mg : Str → Option Value} {x : Str} {ds : List D} (hm : mg x = some (.ref (He.ga K x))) (h : tupC x ds K = true) : GlbT ⟨K, mg, P, w⟩ x ds := by
  unfold tupC at h
  split at h
  · rename_i c its n sl q
    simp only [Bool.and_eq_true, decide_eq_true_eq] at h
    obtain ⟨rfl, h2, h3⟩ := h
    obtain ⟨vs, h4, h5⟩ := flatC_ok (B := ⟨K, mg, P, w⟩) (G := fun _ => none) h3
    exact ⟨_, _, vs, hm, q, rfl, rfl, fun G => .inr ⟨_, its, n, q, rfl, rfl, h2, h4⟩, fun G => flatC_uniq h3 h5⟩
  · cases h
end FF
set_option maxHeartbeats 4000000
/-! short words for what the program of mine prints -/
namespace FF
open PySem PySem.Spec PyProof.Rows L2
section
variable {X : Cx} {W : WX} {e a b tg : Expr} {f fa fb : DE} {pos p p2 : Pos} {es : List Expr} {fs : Sd → R (List D)}
theorem eb_len (hm : X.mg "len" = none) (hg : Gl X "len") (ha : AD X W [a] fs) (he : starEach [a] X.env = (false, eval a X.env) :: starEach [] X.env := by rfl) : ED X W (.Call (.Name "len" p) [a] [] pos) (eOL lenD fs) := ed_callB cr_lenD sem_len hg hm bt_len ha (he := he) (hpl := by first | rfl | (simp [he]; done))
theorem eb_all (hm : X.mg "all" = none) (hc : X.calm = true) (hg : Gl X "all") (ha : AD X W [a] fs) (he : starEach [a] X.env = (false, eval a X.env) :: starEach [] X.env := by rfl) : ED X W (.Call (.Name "all" p) [a] [] pos) (eOL allD fs) := ed_callB (cr_all hc) sem_all hg hm bt_all ha (he := he) (hpl := by first | rfl | (simp [he]; done))
theorem eb_any (hm : X.mg "any" = none) (hc : X.calm = true) (hg : Gl X "any") (ha : AD X W [a] fs) (he : starEach [a] X.env = (false, eval a X.env) :: starEach [] X.env := by rfl) : ED X W (.Call (.Name "any" p) [a] [] pos) (eOL anyD fs) := ed_callB (cr_any hc) sem_any hg hm bt_any ha (he := he) (hpl := by first | rfl | (simp [he]; done))
theorem eb_tuple (hm : X.mg "tuple" = none) (hg : Gl X "tuple") (ha : AD X W [a] fs) (he : starEach [a] X.env = (false, eval a X.env) :: starEach [] X.env := by rfl) : ED X W (.Call (.Name "tuple" p) [a] [] pos) (eOL tupleD fs) := ed_callTy call_tuple_of sem_tuple hg hm bt_tuple ha (he := he) (hpl := by first | rfl | (simp [he]; done))
theorem eb_list (hm : X.mg "list" = none) (hg : Gl X "list") (ha : AD X W [a] fs) (he : starEach [a] X.env = (false, eval a X.env) :: starEach [] X.env := by rfl) : ED X W (.Call (.Name "list" p) [a] [] pos) (eOL listD fs) := ed_callTy call_list_of sem_list hg hm bt_list ha (he := he) (hpl := by first | rfl | (simp [he]; done))
end
theorem cat1 {K : PySem.W.Frag} {mg : Str → Option Value} {c : Str} {A B : Addr} (hg : mg c = some (.ref A)) (h : PySem.W.exmOne K (.ref A) (.ref B) = some true) : ∀ C, mg c = some (.ref C) → PySem.W.exmOne K (.ref C) (.ref B) = some true := fun C hC => by
  rw [hg] at hC
  cases hC
  exact h
/-- the own errors cs: what isinstance says -/
def tblE (cs : List Str) (Y : Str) : Str → Option Bool := fun c => if c ∈ cs then some (decide (c = Y)) else none
def tblV (cs : List Str) : Str → Option Bool := fun c => if c ∈ cs then some true else none
def askE (cs : List Str) (K : PySem.W.Frag) : Bool := cs.all fun c => excCB K c && (cs.all fun y => decide (PySem.W.kitOne K (.ref (He.ga K c)) (.ref (He.ga K y)) = some (decide (c = y)))) && decide (PySem.W.kitOne K (.ref (He.ga K c)) (.type "ValueError") = some true)
theorem askE_ok {cs : List Str} {K : PySem.W.Frag} (h : askE cs K = true) {c : Str} (hc : c ∈ cs) : ExcC K (He.ga K c) ∧ (∀ y ∈ cs, PySem.W.kitOne K (.ref (He.ga K c)) (.ref (He.ga K y)) = some (decide (c = y))) ∧ PySem.W.kitOne K (.ref (He.ga K c)) (.type "ValueError") = some true := by
  unfold askE at h
  rw [List.all_eq_true] at h
  have q := h c hc
  simp only [Bool.and_eq_true, List.all_eq_true, decide_eq_true_eq] at q
  exact ⟨excCB_ok q.1.1, q.1.2, q.2⟩
theorem askE_tbl {cs : List Str} {K : PySem.W.Frag} {mg : Str → Option Value} (h : askE cs K = true) (hg : ∀ c ∈ cs, mg c = some (.ref (He.ga K c))) {Y : Str} (hY : Y ∈ cs) : ∀ c b, tblE cs Y c = some b → ∀ C, mg c = some (.ref C) → ExcC K C ∧ PySem.W.kitOne K (.ref C) (.ref (He.ga K Y)) = some b := fun c b hb C hC => by
  unfold tblE at hb
  split at hb
  · rename_i hc
    cases hb
    rw [hg c hc] at hC
    cases hC
    obtain ⟨h1, h2, _⟩ := askE_ok h hc
    exact ⟨h1, h2 Y hY⟩
  · cases hb
theorem askE_tblV {cs : List Str} {K : PySem.W.Frag} {mg : Str → Option Value} (h : askE cs K = true) (hg : ∀ c ∈ cs, mg c = some (.ref (He.ga K c))) : ∀ c b, tblV cs c = some b → ∀ C, mg c = some (.ref C) → ExcC K C ∧ PySem.W.kitOne K (.ref C) (.type "ValueError") = some b := fun c b hb C hC => by
  unfold tblV at hb
  split at hb
  · rename_i hc
    cases hb
    rw [hg c hc] at hC
    cases hC
    obtain ⟨h1, _, h2⟩ := askE_ok h hc
    exact ⟨h1, h2⟩
  · cases hb
section
variable {X : Cx} {W : WX} {e a b tg : Expr} {f fa fb : DE} {pos p p2 : Pos} {es : List Expr} {fs : Sd → R (List D)}
theorem eb_isE {cs : List Str} (Y : Str) (hm : X.mg "isinstance" = none) (ak : askE cs X.K = true) (hcs : ∀ c ∈ cs, X.mg c = some (.ref (He.ga X.K c))) (hY : Y ∈ cs) (hg : Gl X "isinstance") (hgY : Gl X Y) (ha : ED X W a fa)
    (hdb : (Y == ("__debug__" : Str)) = false := by decide) (he : starEach [a, .Name Y p2] X.env = (false, eval a X.env) :: starEach [.Name Y p2] X.env := by rfl) (hpl : (backTo pos (starEach [.Name Y p2] X.env)).any (·.1) = false := by rfl) : ED X W (.Call (.Name "isinstance" p) [a, .Name Y p2] [] pos) (eIsE (tblE cs Y) fa) :=
  ed_isE (cvv := .ref (He.ga X.K Y)) (cv := .ref (He.ga X.K Y)) hg hm ha (pe_glob hgY (hcs Y hY) rfl hdb) (fun u r => r) (askE_tbl ak hcs hY) he hpl
theorem eb_isV {cs : List Str} (hm : X.mg "isinstance" = none) (hmv : X.mg "ValueError" = none) (ak : askE cs X.K = true) (hcs : ∀ c ∈ cs, X.mg c = some (.ref (He.ga X.K c))) (hg : Gl X "isinstance") (hgY : Gl X "ValueError") (ha : ED X W a fa)
    (he : starEach [a, .Name "ValueError" p2] X.env = (false, eval a X.env) :: starEach [.Name "ValueError" p2] X.env := by rfl) (hpl : (backTo pos (starEach [.Name "ValueError" p2] X.env)).any (·.1) = false := by rfl) : ED X W (.Call (.Name "isinstance" p) [a, .Name "ValueError" p2] [] pos) (eIsE (tblV cs) fa) :=
  ed_isE (cvv := .ty "ValueError") (cv := .type "ValueError") hg hm ha (pe_bltn hgY hmv bt_ve rfl) (fun u r => r) (askE_tblV ak hcs) he hpl
end
end FF
set_option maxHeartbeats 4000000
/-! the law's end -/
namespace FF
open PySem PySem.Spec PyProof.Rows L2
theorem fnOk_of {P : Program} {w : World} {K : PySem.W.Frag} {mg : Str → Option Value} {base : Heap} {x' qual : Str} {params : Arguments} {body : List Stmt} {scope : Scope} {f : Addr} {fd : FuncData} {N ps : List Str} {k : Nat} {g : DS}
    (F : FunD K x' qual params body scope [] [] f fd) (S : FnScope N ps scope)
    (hbody : ∀ (cdv : Value) (A : Around) (outer : List Env) (s : Shared) (H : Hp) (E : XK), CtxD (cxOf (L2.CX P w) P w K mg base N qual scope f cdv A outer s H E) (WE0 E) k →
      SDs (cxOf (L2.CX P w) P w K mg base N qual scope f cdv A outer s H E) (WE0 E) body g) : FnOk P w K mg base (L2.CX P w) (k + 1) f fd ps (spD ⟨K, mg, P, w⟩ ps.length (runD ps.length N.length g)) := by
  refine F.ok S (fun vs H Q E h => ?_) (fun cdv A outer s H vs Q E hr h => ⟨_, hbody cdv A outer s H E ⟨hr, takes_of rfl rfl rfl rfl, passes_of rfl⟩, ?_⟩)
  · obtain ⟨O, ds, h1, _, h2, _⟩ := h
    rw [h2.length, h1]
  · obtain ⟨O, ds, h1, h0, h2, h3⟩ := h
    unfold runD at h3
    rw [if_pos h1] at h3
    have hl : vs.length = ds.length := h2.length
    refine ⟨O, [], startD N.length ds, ⟨by simpa using h0, [], ?_, List.nodup_nil, by simp⟩, ?_⟩
    · unfold startD L2.start
      rw [List.append_nil, hl]
      exact slots_start _ h2
    · have sm : ∀ {Om' : List Addr} {H' : Hp}, Ext [] H Om' H' → Same H H' := fun x b o q => x.keep b o (by simp) q
      cases q : g (startD N.length ds) with
      | next σ1 =>
        rw [q] at h3
        exact fun σ' Om' H' s' x => h3 .non H' (sm x) rfl
      | ret d σ1 =>
        rw [q] at h3
        exact fun v σ' Om' H' s' x r => h3 v H' (sm x) (r.mono (sub_minus fun a ha => by simp [ha]))
      | brk σ1 => rw [q] at h3; exact h3.elim
      | cont σ1 => rw [q] at h3; exact h3.elim
      | exc c σ1 =>
        rw [q] at h3
        exact fun C σ' Om' H' hc s' x => h3 C H' hc (sm x)
      | stuck => rw [q] at h3; exact h3.elim
/-- the law's own promise -/
def Ends (P : Program) (w : World) (K : PySem.W.Frag) (mg : Str → Option Value) (f : Addr) (k : Nat) (x : Str) (m : List D → R D) : Prop :=
  ∃ fd : FuncData, (∀ (s : Shared) (u : Value), BindsTo s fd ⟨[u], []⟩ [(x, u)]) ∧ ∀ base : Heap, FnOk P w K mg base (L2.CX P w) k f fd [x] (spD ⟨K, mg, P, w⟩ 1 m)
theorem Ends.at_ {l : PySem.W.OpenLaw} {w : World} {K : PySem.W.Frag} {mg : Str → Option Value} {f : Addr} {k n : Nat} {x : Str} {m : List D → R D} {h : Heap} (e : Ends l.prog w K mg f k x m)
    (hp : ∀ ns : List Int, ns.length ≤ n → (∀ z ∈ ns, Builtin.Int.intBits z ≤ 1048576) → m [.src ns] = .ok (.bl true)) : LamX.LawAtS l w K (L2.CX l.prog w) k n x mg f h := by
  obtain ⟨fd, hb, hF⟩ := e
  refine ⟨fd, [], spD ⟨K, mg, l.prog, w⟩ 1 m, by simp, by simp, by simp, hb, fun H a ns hl hbits _ hS => ?_, fun base _ _ _ => hF base⟩
  refine ⟨[], [.src ns], rfl, by simp, ⟨.ref a, [], rfl, ⟨a, rfl, ?_⟩, rfl⟩, ?_⟩
  · have e : minus H [] = H := funext fun b => by simp [minus]
    rw [e]
    exact hS
  · rw [hp ns hl hbits]
    intro v H' _ r
    exact r
theorem noCX {P : Program} {w : World} {H : Hp} {s : Shared} {e : Value} {s' : Shared} (h : L2.CX P w [] H s (fun _ _ _ => False) e s') : False := by
  obtain ⟨a, B, H', cls, d, _, _, _, _, _, _, _, z⟩ := h
  exact z
end FF
set_option maxHeartbeats 4000000
/-! int of a truth value; sums -/
namespace FF
open PySem PySem.Spec PyProof.Rows L2
section
variable {X : Cx} {W : WX} {e a b tg : Expr} {f fa fb : DE} {pos p p2 : Pos} {es : List Expr} {fs : Sd → R (List D)}
def intD : List D → R D
  | [.int i] => .ok (.int i)
  | [.bl b] => .ok (.int (if b then 1 else 0))
  | _ => .stuck
theorem sem_int : SemL (bdOf X) (fun xs H Q => (∃ i, xs = [.int i] ∧ Q (.int i) H) ∨ ∃ k, xs = [.bl k] ∧ Q (.int (if k then 1 else 0)) H) intD := by
  intro Oc Om H xs us Q hO rs h
  rcases xs with _ | ⟨x1, _ | ⟨x2, rr⟩⟩
  · exact h.elim
  · cases x1 with
    | int i =>
      obtain ⟨u, rfl, r⟩ := repl1 rs
      cases r
      exact .inl ⟨i, rfl, h _ H (Same.refl _) rfl⟩
    | bl i =>
      obtain ⟨u, rfl, r⟩ := repl1 rs
      cases r
      exact .inr ⟨i, rfl, h _ H (Same.refl _) rfl⟩
    | _ => exact h.elim
  · cases x1 <;> exact h.elim
theorem eb_int (hm : X.mg "int" = none) (hg : Gl X "int") (ha : AD X W [a] fs) (he : starEach [a] X.env = (false, eval a X.env) :: starEach [] X.env := by rfl) : ED X W (.Call (.Name "int" p) [a] [] pos) (eOL intD fs) := ed_callTy call_int1 sem_int hg hm bt_int ha (he := he) (hpl := by first | rfl | (simp [he]; done))
def rSumT (K : PySem.W.Frag) : List V → Hp → VK → Prop := fun vs H Q => ∃ (a : Addr) (ns : List Int), vs = [V.ref a] ∧ (SqL K H a (ns.map V.int) ∨ SqT K H a (ns.map V.int)) ∧ Q (.int ns.sum) H
theorem cr_sumT (hc : X.calm = true) : CallR X (.builtin "sum") (rSumT X.K) := by
  intro pins s σ H vs us Q I r h
  obtain ⟨a, ns, rfl, hs | hs, q⟩ := h
  · exact cr_sum hc pins s σ H _ us Q I r ⟨a, ns, rfl, hs, q⟩
  · obtain ⟨its, rv, ht, _⟩ := I.tuple hs
    rw [Vals.ref1 r]
    have hi := rv.ints
    obtain ⟨xs, e⟩ := hi.allInts.items
    have hn : numsOf (intItems xs).toList = ns := by rw [← e]; exact hi.numsOf
    rw [nums_intItems] at hn
    rw [e] at ht
    refine PySem.W.ktm_sumG (I.ok.hd hc) ht fun h' tk t' hk => ?_
    rw [preSum_eq, List.take_of_length_le (by simp), hn]
    exact ⟨.int _, H, I.kept hk, ⟨_, rfl⟩, q⟩
def sumL : List D → R D
  | [.lst ds] => match intsOf ds with
    | some bs => .ok (.int bs.sum)
    | none => .stuck
  | [.tup ds] => match intsOf ds with
    | some bs => .ok (.int bs.sum)
    | none => .stuck
  | _ => .stuck
theorem sem_sum : SemL (bdOf X) (rSumT X.K) sumL := by
  intro Oc Om H xs us Q hO rs h
  rcases xs with _ | ⟨x1, _ | ⟨x2, rr⟩⟩
  · exact h.elim
  · cases x1 with
    | lst ds =>
      obtain ⟨u, rfl, r⟩ := repl1 rs
      obtain ⟨a, vs, rfl, h1, h2⟩ := (show ∃ a vs, u = .ref a ∧ _ = some (HO.lst vs) ∧ RepL _ _ ds vs by unfold Rep at r; exact r)
      cases q : intsOf ds with
      | none =>
        have h3 : ((match intsOf ds with
          | some bs => R.ok (D.int bs.sum)
          | none => R.stuck) : R D).post _ _ := h
        rw [q] at h3
        exact h3.elim
      | some bs =>
        have h3 : ((match intsOf ds with
          | some bs => R.ok (D.int bs.sum)
          | none => R.stuck) : R D).post (fun d => ∀ w H', Same H H' → Rep (bdOf X) (fz H' Oc Om) d w → Q w H') (fun _ => False) := h
        rw [q] at h3
        have e := RepL.intsOf h2 q
        subst e
        exact ⟨a, bs, rfl, .inl (SqL.of (fz_sub h1)), h3 _ H (Same.refl _) rfl⟩
    | tup ds =>
      obtain ⟨u, rfl, r⟩ := repl1 rs
      obtain ⟨a, vs, rfl, h1, h2⟩ := (rep_sq r)
      cases q : intsOf ds with
      | none =>
        have h3 : ((match intsOf ds with
          | some bs => R.ok (D.int bs.sum)
          | none => R.stuck) : R D).post _ _ := h
        rw [q] at h3
        exact h3.elim
      | some bs =>
        have h3 : ((match intsOf ds with
          | some bs => R.ok (D.int bs.sum)
          | none => R.stuck) : R D).post (fun d => ∀ w H', Same H H' → Rep (bdOf X) (fz H' Oc Om) d w → Q w H') (fun _ => False) := h
        rw [q] at h3
        have e := RepL.intsOf h2 q
        subst e
        exact ⟨a, bs, rfl, .inr (Same.seqT minus_sub h1), h3 _ H (Same.refl _) rfl⟩
    | _ => exact h.elim
  · cases x1 <;> exact h.elim
theorem eb_sum (hm : X.mg "sum" = none) (hc : X.calm = true) (hg : Gl X "sum") (ha : AD X W [a] fs) (he : starEach [a] X.env = (false, eval a X.env) :: starEach [] X.env := by rfl) : ED X W (.Call (.Name "sum" p) [a] [] pos) (eOL sumL fs) := ed_callB (cr_sumT hc) sem_sum hg hm bt_sum ha (he := he) (hpl := by first | rfl | (simp [he]; done))
end
end FF
set_option maxHeartbeats 4000000
/-! enumerate over lists and tuples -/
namespace FF
open PySem PySem.Spec PyProof.Rows L2
theorem drawsT {prog : Program} {w : World} {A : Around} (hh : A.handled = none) (it l : Addr) (hne : l ≠ it) (items : Array Value) :
    Draws prog w A it [it, l] items.size (fun i v => items[i]? = some v) (fun i h => h.IsTupleIter it l i ∧ h.IsTuple l items) where
  live := fun _ _ st => let ⟨o, ho, _⟩ := st.1; ⟨o, ho⟩
  frame := fun _ _ _ st hk => ⟨st.1.at fun o e => hk it (by simp) o e, st.2.at fun o e => hk l (by simp) o e⟩
  item := fun i s Q E hi st hQ => by
    refine PySem.wpAny_nextOf_tuple_item st.1 st.2 (x := items[i]) (by simp [hi]) fun h' hit' hs' => ?_
    exact hQ _ h' s.toks (by simp [hi]) ⟨hit', st.2.at fun o e => hs'.extBut l o hne e⟩ hs'
  done := fun s Q E st hE => PySem.wpAny_nextOf_tuple_end hh st.1 st.2 (by simp) hE
theorem enum_new1 {v : Value} {o : Obj} {H : Heap → Prop} (B : Begins v o H) :
    Meets (Builtin.«enumerate.__new__» ⟨[.type "enumerate", v], []⟩) (fun _ R s => H s.heap ∧
      R (.ok (.ret (.ref (s.heap.push o).objs.size))) { s with heap := (s.heap.push o).push { cls := .type "enumerate", data := .fields #[.none, .bool false, .ref s.heap.objs.size, rawInt 0, .none, .none] } }) :=
  .of_wp fun prog w A R s h => by
    obtain ⟨hp, g, d, tk, os⟩ := s; obtain ⟨h1, h⟩ := h
    have hsub := PySem.sub_enumerate
    have q1 : ∀ {A' : Around} {E : Value → Shared → Prop} {Q : Value → Shared → Prop}, Q (.ref hp.objs.size) ⟨hp.push o, g, d, tk, os⟩ → wpAny (model prog w) A' (pyIter v) Q E ⟨hp, g, d, tk, os⟩ :=
      fun q => B.iter prog w _ _ ⟨hp, g, d, tk, os⟩ _ h1 q
    wp_walk using q1
    refine wpAny_stack_any fun st => wpAny_pure ?_
    split
    · rename_i c _ _ _ _ _
      cases (c == Value.type "enumerate")
      · wp_walk using q1
        exact ⟨_, rfl, h⟩
      · wp_walk using q1
        exact ⟨_, rfl, h⟩
    · wp_walk using q1
      exact ⟨_, rfl, h⟩
theorem call_enumT {prog : Program} {w : World} {A : Around} {E : Value → Shared → Prop} {s : Shared} {l : Addr} {items : Array Value} {Q : Value → Shared → Prop} (hL : s.heap.IsTuple l items)
    (h : ∀ h', IsEnum h' (s.heap.objs.size + 1) s.heap.objs.size 0 .none → h'.IsTupleIter s.heap.objs.size l 0 → h'.objs.size = s.heap.objs.size + 2 →
      (∀ b o, s.heap.get? b = some o → h'.get? b = some o) → Q (.ref (s.heap.objs.size + 1)) { s with heap := h' }) :
    wpAny (model prog w) A (call (.type "enumerate") [.ref l]) Q E s := by
  refine callType_new F.called_enumerate (by decide) (F.typeCall_enumerate_1 _) (F.newCall_enumerate_1 _) (fun obj => F.args_object_init_2 obj _) F.entry_enumerate_new
    (enum_new1 (begins_tuple l items)) ⟨hL, ?_⟩
  have hz : (s.heap.push { cls := .type "tuple_iterator", data := .fields #[.ref l, .int 0 0] }).objs.size = s.heap.objs.size + 1 := Heap.size_push ..
  show _ ∧ _
  rw [hz]
  have he : IsEnum ((s.heap.push { cls := .type "tuple_iterator", data := .fields #[.ref l, .int 0 0] }).push
      { cls := .type "enumerate", data := .fields #[.none, .bool false, .ref s.heap.objs.size, rawInt 0, .none, .none] }) (s.heap.objs.size + 1) s.heap.objs.size 0 .none := by
    have := Heap.get?_push_size (s.heap.push { cls := .type "tuple_iterator", data := .fields #[.ref l, .int 0 0] })
      (o := { cls := .type "enumerate", data := .fields #[.none, .bool false, .ref s.heap.objs.size, rawInt 0, .none, .none] }) rfl
    rw [hz] at this; exact this
  refine ⟨⟨_, he, rfl⟩, h _ he ⟨_, Heap.get?_push_of_some _ (Heap.get?_push_size _ rfl), rfl, rfl⟩ (by rw [Heap.size_push, hz]) fun b o x => Heap.get?_push_of_some _ (Heap.get?_push_of_some _ x)⟩
/-- the tuple at a, its items numbered in new pairs -/
def IteT (K : PySem.W.Frag) (a : Addr) : It :=
  ⟨fun i H => ∃ (xs : List V) (x : V), SqT K H a xs ∧ xs[i]? = some x, fun i H v H' => ∃ T x, v = .ref T ∧ H T = none ∧ H' = upd H T (.tup [.int (i : Nat), x]) ∧ ∀ xs, SqT K H a xs → xs[i]? = some x, fun i H => ∃ xs : List V, SqT K H a xs ∧ xs.length ≤ i⟩
theorem turn_enumT {P : Program} {w : World} {K : PySem.W.Frag} {elts : List Expr} {kk : Nat} {tpos : Pos} (a e it : Addr) (hai : a ≠ it) (hea : e ≠ a) :
    Turn P w K (.Tuple elts kk tpos) (IteT K a) [e, it] e (fun i h => (∃ old, IsEnum h e it ((i : Nat) : Int) old) ∧ h.IsTupleIter it a i ∧ e ≠ it) where
  mem := by simp
  obj := fun i h st b hb => by
    obtain ⟨⟨old, he⟩, ⟨o, ho, hc, hd⟩, _⟩ := st
    have e' : b = e ∨ b = it := by simpa using hb
    rcases e' with z | z
    · rw [z]; exact ⟨_, he, fun v q => nomatch q⟩
    · rw [z]; exact ⟨o, ho, fun v q => by rw [hd] at q; cases q⟩
  keep := fun i h h' st k => let ⟨⟨old, he⟩, hi, hne⟩ := st; ⟨⟨old, k e (by simp) _ he⟩, hi.at fun o q => k it (by simp) o q, hne⟩
  item := by
    intro X hP hw hK hc i pins s σ H E I hf st hg
    subst hP hw hK
    obtain ⟨⟨old, he⟩, hit, hne⟩ := st
    obtain ⟨xs, x, hq, hx⟩ := hg
    obtain ⟨its, rv, p, hz⟩ := I.tuple hq
    obtain ⟨u, hu, ru⟩ := rv.get hx
    have hel : e < s.heap.objs.size := Heap.lt_size he
    have hil : it < s.heap.objs.size := by obtain ⟨_, q, _⟩ := hit; exact Heap.lt_size q
    have hlt : i < its.toArray.size := by
      have := (List.getElem?_eq_some_iff.mp hu).1
      simpa using this
    have D := drawsT (prog := X.prog) (w := X.w) (A := X.A.in1) (show X.A.in1.handled = none from I.ok.hd hc) it a hai its.toArray
    refine wpAny_pyNext_enum_itemD D he ⟨hit, p⟩ hlt hne (by simp [hne, hea]) fun x' h' tk hx' ho hst hT hsz hk => ?_
    have ex : x' = u := by
      have : its.toArray[i]? = some u := by simpa using hu
      rw [this] at hx'
      exact (Option.some.inj hx').symm
    subst ex
    refine ⟨_, rfl, wpAny_letOwnedTupleGo_enum (s := { s with heap := h', toks := tk + 1 }) ho fun h'' he' sb => ?_⟩
    have hT2 : h''.get? s.heap.objs.size = some { cls := .type "tuple", data := .seq #[.int i tk, x'] } := (sb.2 _ (Nat.ne_of_gt hel)).trans hT
    have new : ObjOk X.prog X.w (upd H s.heap.objs.size (.tup [.int (i : Nat), x])) h'' s.heap.objs.size (.tup [.int (i : Nat), x]) :=
      ⟨by show 2 ≤ sizeLine; decide, [.int i tk, x'], .cons ⟨_, rfl⟩ (.cons ru .nil), ⟨_, hT2, rfl, _, rfl⟩⟩
    have I1 : Inv X pins σ (upd H s.heap.objs.size (.tup [.int (i : Nat), x])) { s with heap := h'', toks := tk + 1 } :=
      I.turnedNew (ch := [e, it]) (fun b ob hb q => (sb.2 b (fun z => hb (by simp [z]))).trans (hk b ob (fun z => hb (by simp [z])) (fun z => hb (by simp [z])) q)) hf (Nat.le_refl _) new
    refine ⟨.ref s.heap.objs.size, _, I1, rfl, ⟨_, x, rfl, I.hok.fresh (Nat.le_refl _), rfl, fun ys hy => by rw [I.tuple_inj hy hq]; exact hx⟩, ⟨⟨x', ?_⟩, hst.1.at fun o q => (sb.2 it (Ne.symm hne)).trans q, hne⟩, fun b hb => ?_⟩
    · have e1 : ((i + 1 : Nat) : Int) = (i : Int) + 1 := by omega
      rw [e1]; exact he'
    · have hb' : b < s.heap.objs.size := by
        have e' : b = e ∨ b = it := by simpa using hb
        rcases e' with z | z
        · rw [z]; exact hel
        · rw [z]; exact hil
      rw [upd_ne (Nat.ne_of_lt hb')]
      exact (hf b hb).1
  done := by
    intro X hP hw hK hc i pins s σ H E I hf st hg
    subst hP hw hK
    obtain ⟨⟨old, he⟩, hit, hne⟩ := st
    obtain ⟨xs, hq, hx⟩ := hg
    obtain ⟨its, rv, p, hz⟩ := I.tuple hq
    obtain ⟨f0, f1, f2, f3, f4, f5⟩ := hf it (by simp)
    have hl := rv.length
    have hn : its.toArray[i]? = none := by simp; omega
    have hT : s.TypeIs (.ref e) "enumerate" := ⟨_, he, rfl⟩
    unfold pyNext
    refine wpAny_bind (wpAny_attempt (wpAny_callSpecial?_slot (name := Str.ofString "__next__") hT F.slot_enumerate_next
      (wpAny_call_entry F.slot_enumerate_next hT F.entry_enumerate_next ?_ (F.args_enumerate_next_1 _))))
    show wpAny _ _ (field (.ref e) 2 >>= _) _ _ _
    refine wpAny_bind (wpAny_field he rfl (x := .ref it) rfl ?_)
    refine wpAny_bind (PySem.wpAny_nextOf_tuple_end (show X.A.in1.handled = none from I.ok.hd hc) hit p hn fun h' x' he' hx' => ?_)
    obtain ⟨o, ho, hc'⟩ := hx'
    refine wpAny_bind (wpAny_isInstance (T := "StopIteration") (b := true) ⟨o, ho, hc'⟩ isSubtype_stop ?_)
    exact wpAny_pure ⟨rfl, I.turned (t' := s.toks) (fun b o hb q => he' b o hb q) f0 f1 f3 f4 f5⟩
  self := fun A i s Q E st h => let ⟨⟨_, he⟩, _⟩ := st; wpAny_pyIter_enum he h
/-- a list or a tuple -/
def iEnumA (K : PySem.W.Frag) (ta : TA) : TI := fun σ H R => ta σ H fun vs H1 => ∃ a xs, vs = [.ref a] ∧ ((SqL K H1 a xs ∧ R (Ite K a) H1) ∨ (SqT K H1 a xs ∧ R (IteT K a) H1))
theorem pi_enumA {X : Cx} {e : Expr} {ta : TA} {p pos tpos : Pos} {elts : List Expr} {kk : Nat} (hg : Gl X "enumerate") (hm : X.mg "enumerate" = none) (ha : PA X [e] ta) (hs : starEach [e] X.env = [(false, eval e X.env)] := by rfl) :
    PI X (.Tuple elts kk tpos) (.Call (.Name "enumerate" p) [e] [] pos) (iEnumA X.K ta) := by
  refine ⟨fun pins s σ H R I h => ?_⟩
  refine Call_ (ld_blt I hg hm boot_enumerate (PyProof.Rows.callWith_type1 (thn (ha.run pos pins s σ H _ I h) fun us s1 ⟨vs, H1, I1, r1, q1⟩ => ?_) hs rfl))
  obtain ⟨a, xs, ex, q1⟩ := q1
  subst ex
  cases r1 with
  | cons r rr =>
    cases rr
    cases r
    have fr : ∀ b, b ∈ [s1.heap.objs.size + 1, s1.heap.objs.size] → FpOk X pins H1 b := fun b hb => by
      have e' : b = s1.heap.objs.size + 1 ∨ b = s1.heap.objs.size := by simpa using hb
      have hle : s1.heap.objs.size ≤ b := by
        rcases e' with z | z
        · rw [z]; exact Nat.le_add_right _ _
        · rw [z]; exact Nat.le_refl _
      exact I1.fpOk hle (I1.hok.fresh hle)
    rcases q1 with ⟨hq, q⟩ | ⟨hq, q⟩
    · obtain ⟨its, rv, p', hz⟩ := I1.list hq
      refine call_enumerate_list p'.isList fun h' he hit hsz hk => wpAny_pyIter_enum he ?_
      have I2 : Inv X pins σ H1 { s1 with heap := h' } := I1.kept (t' := s1.toks) hk
      exact ⟨s1.heap.objs.size + 1, [s1.heap.objs.size + 1, s1.heap.objs.size], _, _, H1, rfl, I2, turn_enum a (s1.heap.objs.size + 1) s1.heap.objs.size, ⟨⟨.none, he⟩, hit, Nat.succ_ne_self _⟩, fr, q⟩
    · obtain ⟨its, rv, p', hz⟩ := I1.tuple hq
      have hlt : a < s1.heap.objs.size := p'.lt
      refine call_enumT (show s1.heap.IsTuple a its.toArray from p') fun h' he hit hsz hk => wpAny_pyIter_enum he ?_
      have I2 : Inv X pins σ H1 { s1 with heap := h' } := I1.kept (t' := s1.toks) hk
      exact ⟨s1.heap.objs.size + 1, [s1.heap.objs.size + 1, s1.heap.objs.size], _, _, H1, rfl, I2, turn_enumT a (s1.heap.objs.size + 1) s1.heap.objs.size (Nat.ne_of_lt hlt) (Nat.ne_of_gt (Nat.lt_succ_of_lt hlt)), ⟨⟨.none, he⟩, hit, Nat.succ_ne_self _⟩, fr, q⟩
section
variable {K : PySem.W.Frag} {a : Addr} {xs : List V}
theorem walk_enumT : Walk (IteT K a) xs.length (fun H => SqT K H a xs) (YPair (fun i => some (.int (i : Nat))) (fun i => xs[i]?)) := by
  refine ⟨fun i _ hi q => ⟨xs, xs[i], q, by simp [hi]⟩, fun _ q => ⟨xs, q, Nat.le_refl _⟩, fun i H v H' _ q y => ?_⟩
  obtain ⟨T, x, h1, h2, h3, h4⟩ := y
  exact ⟨T, .int (i : Nat), x, h1, h2, h3, rfl, h4 xs q⟩
end
theorem yld_enumT {B : Bd} {Oc Om : List Addr} {H : Hp} {p : Addr} {ds : List D} {vs : List V} (h1 : SqT B.K (fz H Oc Om) p vs) (r1 : RepL B (fz H Oc Om) ds vs) : Yld B (IteT B.K p) Oc Om H (enumT 0 ds) := by
  have hl : (enumT 0 ds).length = vs.length := by rw [enumT_length, r1.length]
  refine ⟨YPair (fun i => some (.int (i : Nat))) (fun i => vs[i]?), by
    rw [hl]
    exact (walk_enumT (xs := vs)).mono (fun H' e => Same.seqT e h1) (fun i H' x H'' _ _ y => y), fun i H' x H'' hi e y => ?_⟩
  obtain ⟨T, x1, y1, rfl, hT, rfl, k1, k2⟩ := y
  refine ⟨same_upd hT, fun Oc' Om' hO sub => ?_⟩
  obtain ⟨d, e1, q1⟩ := rep_at r1 (Same.refl _) k2
  cases k1
  refine ⟨_, enumT_at _ _ _ _ e1, pair_new hO hT sub ?_ q1⟩
  rw [Nat.zero_add]
  rfl
/-- enumerate(e) -/
def enK : D → R (List D)
  | .lst ds => .ok (enumT 0 ds)
  | .tup ds => .ok (enumT 0 ds)
  | _ => .stuck
def iEnumD (f : DE) : Sd → R (List D) := fun σ => f σ >>= enK
theorem id_enum {X : Cx} {W : WX} {a : Expr} {fa : DE} {elts : List Expr} {kk : Nat} {tpos p pos : Pos} (hg : Gl X "enumerate") (hm : X.mg "enumerate" = none) (ha : ED X W a fa) (hs : starEach [a] X.env = [(false, eval a X.env)] := by rfl)
    (hs2 : starEach [a] X.env = (false, eval a X.env) :: starEach [] X.env := by rfl) : ID X W (.Tuple elts kk tpos) (.Call (.Name "enumerate" p) [a] [] pos) (iEnumD fa) :=
  pi_imp (pi_enumA hg hm (pa_cons ha pa_nil hs2) hs) fun σ H Q ⟨Oc, Om, σd, s, h⟩ => tI_seq s h fun x u H1 e1 r s1 h1 => by
    cases x <;> first | exact h1.elim | skip
    case lst xs =>
      obtain ⟨p, vs, rfl, k1, k2⟩ := (show ∃ a vs, u = .ref a ∧ _ = some (HO.lst vs) ∧ RepL _ _ xs vs by unfold Rep at r; exact r)
      exact ⟨p, vs, rfl, .inl ⟨SqL.of (fz_sub k1), h1 _ H1 (Same.refl _) (yld_enum k1 k2)⟩⟩
    case tup xs =>
      obtain ⟨p, vs, rfl, k1, k2⟩ := (rep_sq r)
      exact ⟨p, vs, rfl, .inr ⟨Same.seqT minus_sub k1, h1 _ H1 (Same.refl _) (yld_enumT k1 k2)⟩⟩
end FF
set_option maxHeartbeats 4000000
/-! lists of lists of one's own -/
namespace FF
open PySem PySem.Spec PyProof.Rows L2
section
variable {X : Cx} {W : WX} {e a b : Expr} {f fa fb : DE} {pos p p2 : Pos} {es : List Expr} {fs fl : Sd → R (List D)}
/-- list(e), new -/
def nlK : List D → R (List D)
  | [.lst xs] => .ok xs
  | [.tup xs] => .ok xs
  | _ => .stuck
def nList (fs : Sd → R (List D)) : Sd → R (List D) := fun σ => fs σ >>= nlK
theorem nd_list (hm : X.mg "list" = none) (hg : Gl X "list") (ha : AD X W [a] fs) (he : starEach [a] X.env = (false, eval a X.env) :: starEach [] X.env := by rfl)
    (hpl : (backTo pos (starEach [] X.env)).any (·.1) = false := by rfl) : NDx X W (.Call (.Name "list" p) [a] [] pos) (nList fs) :=
  pe_imp (pe_callTy call_list_of hg hm bt_list ha (by decide) (by decide) he hpl) fun σ H Q ⟨Oc, Om, σd, s, h⟩ => tDA_seq s h fun ds vs H1 e1 rs s1 h1 => by
    rcases ds with _ | ⟨x, _ | ⟨y, r⟩⟩
    · exact h1.elim
    · cases x with
      | lst xs =>
        obtain ⟨u, rfl, r⟩ := repl1 rs
        obtain ⟨q, ws, rfl, k1, k2⟩ := (show ∃ a vs, u = .ref a ∧ _ = some (HO.lst vs) ∧ RepL _ _ xs vs by unfold Rep at r; exact r)
        refine ⟨q, ws, rfl, .inl (SqL.of (fz_sub k1)), fun l hl => ?_⟩
        refine h1 l ws _ (e1.trans (same_upd hl)) ?_ upd_same (by rw [fz_new2 hl]; exact k2)
        cases z : H l with
        | none => rfl
        | some o => rw [e1 _ _ z] at hl; cases hl
      | tup xs =>
        obtain ⟨u, rfl, r⟩ := repl1 rs
        obtain ⟨q, ws, rfl, k1, k2⟩ := (rep_sq r)
        refine ⟨q, ws, rfl, .inr (Same.seqT minus_sub k1), fun l hl => ?_⟩
        refine h1 l ws _ (e1.trans (same_upd hl)) ?_ upd_same (by rw [fz_new2 hl]; exact k2)
        cases z : H l with
        | none => rfl
        | some o => rw [e1 _ _ z] at hl; cases hl
      | _ => exact h1.elim
    · cases x <;> exact h1.elim
end
end FF
set_option maxHeartbeats 4000000
/-! the module's tuples of tuples -/
namespace FF
open PySem PySem.Spec PyProof.Rows L2
def flat2C (K : PySem.W.Frag) : List D → List Value → Bool
  | [], [] => true
  | .tup es :: ds, .ref p :: vs => (match K.lookup p with
    | some ⟨.type c, none, .seq its _, _⟩ => decide (c = "tuple") && (decide (its.size ≤ sizeLine) && tupC.flatC es its.toList)
    | _ => false) && flat2C K ds vs
  | _, _ => false
theorem flat2C_ok {B : Bd} : ∀ {ds : List D} {us : List Value}, flat2C B.K ds us = true → ∃ vs, Vals vs us ∧ ∀ G, RepL B G ds vs
  | [], [], _ => ⟨[], .nil, fun _ => .nil⟩
  | .tup es :: ds, .ref p :: us, h => by
    unfold flat2C at h
    rw [Bool.and_eq_true] at h
    obtain ⟨h1, h2⟩ := h
    split at h1
    · rename_i c its n sl q
      simp only [Bool.and_eq_true, decide_eq_true_eq] at h1
      obtain ⟨rfl, h3, h4⟩ := h1
      obtain ⟨vs, v1, v2⟩ := flatC_ok (B := B) (G := fun _ => none) h4
      obtain ⟨ws, w1, w2⟩ := flat2C_ok (B := B) h2
      refine ⟨.ref p :: ws, .cons rfl w1, fun G => .cons ?_ (w2 G)⟩
      unfold Rep
      exact ⟨p, vs, rfl, .inr ⟨_, its, n, q, rfl, rfl, h3, v1⟩, flatC_uniq h4 v2⟩
    · cases h1
def tupC2 (x : Str) (ds : List D) (K : PySem.W.Frag) : Bool := match K.lookup (He.ga K x) with
  | some ⟨.type c, none, .seq its _, _⟩ => decide (c = "tuple") && (decide (its.size ≤ sizeLine) && flat2C K ds its.toList)
  | _ => false
theorem tupC2_ok {P : Program} {w : World} {K : PySem.W.Frag} {mg : Str → Option Value} {x : Str} {ds : List D} (hm : mg x = some (.ref (He.ga K x))) (h : tupC2 x ds K = true) : GlbT ⟨K, mg, P, w⟩ x ds := by
  unfold tupC2 at h
  split at h
  · rename_i c its n sl q
    simp only [Bool.and_eq_true, decide_eq_true_eq] at h
    obtain ⟨rfl, h2, h3⟩ := h
    obtain ⟨vs, h4, h5⟩ := flat2C_ok (B := ⟨K, mg, P, w⟩) h3
    exact ⟨_, _, vs, hm, q, rfl, rfl, fun G => .inr ⟨_, its, n, q, rfl, rfl, h2, h4⟩, h5⟩
  · cases h
end FF
set_option maxHeartbeats 4000000
/-! list(range(n)), a list turned about -/
namespace FF
open PySem PySem.Spec PyProof.Rows L2
section
variable {X : Cx} {W : WX} {e a b : Expr} {f fa fb : DE}
def lrK : D → R D
  | .int n => if 0 ≤ n ∧ n.natAbs ≤ 1000000 then .ok (.lst (rangeD 0 n.toNat)) else .stuck
  | _ => .stuck
def eListRg (fa : DE) : DE := fun σ => fa σ >>= lrK
theorem rgV_rep {B : Bd} {G : Hp} {lo : Int} : ∀ n : Nat, RepL B G (rangeD lo n) ((List.range n).map fun i : Nat => V.int (lo + (i : Nat))) := by
  have h : ∀ xs : List Nat, RepL B G (xs.map fun i : Nat => D.int (lo + (i : Int))) (xs.map fun i : Nat => V.int (lo + (i : Nat))) := by
    intro xs
    induction xs with
    | nil => exact .nil
    | cons x xs ih => exact .cons rfl ih
  exact fun n => h _
theorem ed_listRg {p p2 pos pos2 : Pos} (hc : X.calm = true) (hg : Gl X "list") (hm : X.mg "list" = none) (hg2 : Gl X "range") (hm2 : X.mg "range" = none) (ha : ED X W a fa)
    (h1 : starEach [a] X.env = (false, eval a X.env) :: starEach [] X.env := by rfl) (h2 : starEach [.Call (.Name "range" p2) [a] [] pos2] X.env = (false, eval (.Call (.Name "range" p2) [a] [] pos2) X.env) :: starEach [] X.env := by rfl) :
    ED X W (.Call (.Name "list" p) [.Call (.Name "range" p2) [a] [] pos2] [] pos) (eListRg fa) :=
  pe_imp (pe_listRg hc hg hm (prg_1 hg2 hm2 ha h1) h2) fun σ H Q ⟨Oc, Om, σd, s, h⟩ => tD_seq s h fun d v H1 e1 r s1 h1 => by
    cases d <;> first | exact h1.elim | skip
    rename_i n
    cases r
    replace h1 : (if 0 ≤ n ∧ n.natAbs ≤ 1000000 then R.ok (D.lst (rangeD 0 n.toNat)) else .stuck).post _ _ := h1
    split at h1
    · rename_i q
      refine ⟨n, rfl, RgOk.of_le (by omega) (by omega) (by omega) (by omega), fun p hp => ?_⟩
      have e : rgV 0 n = (List.range n.toNat).map fun i : Nat => V.int ((0 : Int) + (i : Nat)) := by
        unfold rgV
        rw [Int.sub_zero]
      rw [e]
      exact h1 _ _ (e1.trans (same_upd hp)) (rep_lstNew s1.1 hp (rgV_rep _))
    · exact h1.elim
def rvK : D → R D
  | .lst xs => .ok (.lst xs.reverse)
  | _ => .stuck
def eRevL (f : DE) : DE := fun σ => f σ >>= rvK
theorem RepL.rev {B : Bd} {G : Hp} : ∀ {ds : List D} {vs : List V}, RepL B G ds vs → RepL B G ds.reverse vs.reverse
  | [], _, h => by rw [show _ = [] from h]; exact .nil
  | d :: ds, _, h => by
    obtain ⟨v, w, rfl, h1, h2⟩ := h
    rw [List.reverse_cons, List.reverse_cons]
    exact h2.rev.append (.cons h1 .nil)
theorem ed_revL {k : Nat} {p1 p2 p3 pos : Pos} (he : ED X W e f) : ED X W (.Subscript e (.Slice none none (some (.UnaryOp .USub (.Constant (.int 1) k p1) p2)) p3) pos) (eRevL f) :=
  pe_imp (pe_revL he) fun σ H Q ⟨Oc, Om, σd, s, h⟩ => tD_seq s h fun d v H1 e1 r s1 h1 => by
    cases d <;> first | exact h1.elim | skip
    rename_i xs
    obtain ⟨q, ws, rfl, k1, k2⟩ := (show ∃ a vs, v = .ref a ∧ _ = some (HO.lst vs) ∧ RepL _ _ xs vs by unfold Rep at r; exact r)
    exact ⟨q, ws, rfl, SqL.of (fz_sub k1), fun p hp => h1 _ _ (e1.trans (same_upd hp)) (rep_lstNew s1.1 hp k2.rev)⟩
end
end FF
set_option maxHeartbeats 4000000
/-! a list of new lists that one name owns: y = [list(r) for r in e], y[i][j] = v -/
namespace FF
open PySem PySem.Spec PyProof.Rows L2
theorem minus_mem {H : Hp} {O O' : List Addr} (h : ∀ a, a ∈ O ↔ a ∈ O') : minus H O = minus H O' := by
  funext b
  unfold minus
  simp only [h b]
section
variable {B : Bd} {Oc Oc' Om : List Addr} {σd : Sd} {σ : L2.St} {H H' : Hp}
theorem SR.mem (s : SR B Oc Om σd σ H) (h : ∀ a, a ∈ Oc ↔ a ∈ Oc') : SR B Oc' Om σd σ H := by
  obtain ⟨h1, fp, h2, h3, h4⟩ := s
  have e : minus H (Oc ++ Om) = minus H (Oc' ++ Om) := minus_mem fun a => by simp [h a]
  rw [e] at h2
  exact ⟨fun a ha => h1 a (by
    rcases List.mem_append.mp ha with z | z
    · simp [(h a).mpr z]
    · simp [z]), fp, h2, h3, fun a ha => ⟨(h4 a ha).1, fun z => (h4 a ha).2 ((h a).mpr z)⟩⟩
/-- what was laid meanwhile is protected -/
theorem SR.protect {p : Addr} (s : SR B Oc Om σd σ H) (e : Same H H') (hp : H p = none) (hp' : H' p ≠ none) : SR B (p :: Oc) Om σd σ H' := by
  obtain ⟨h1, fp, h2, h3, h4⟩ := s
  refine ⟨fun a ha => ?_, fp, SlotsR.keep (fun a o ha => ?_) (fun a _ o q => e a o q) h2, h3, fun a ha => ⟨(h4 a ha).1, fun z => ?_⟩⟩
  · rcases List.mem_cons.mp ha with z | z
    · rw [z]; exact hp'
    · exact Same.ne e (h1 a z)
  · obtain ⟨a1, a2⟩ := minus_some.mp ha
    refine minus_some.mpr ⟨fun z => ?_, e _ _ a2⟩
    rcases List.mem_cons.mp z with z | z
    · rw [z, hp] at a2; cases a2
    · exact a1 z
  · rcases List.mem_cons.mp z with z | z
    · exact h1 a (by simp [(h4 a ha).1]) (by rw [z]; exact hp)
    · exact (h4 a ha).2 z
theorem SR.writeC {D : Addr} {o : HO} (s : SR B Oc Om σd σ H) (hD : D ∈ Oc) (hm : D ∉ Om) : SR B Oc Om σd σ (upd H D o) :=
  ((s.mem (Oc' := D :: Oc) fun a => by
    constructor
    · intro z; simp [z]
    · intro z
      rcases List.mem_cons.mp z with z | z
      · rw [z]; exact hD
      · exact z).tempW hm).mem fun a => by
    constructor
    · intro z
      rcases List.mem_cons.mp z with z | z
      · rw [z]; exact hD
      · exact z
    · intro z; simp [z]
theorem Rows.len {G H : Hp} : ∀ {xss : List (List D)} {ps : List Addr}, Rows B G H xss ps → ps.length = xss.length
  | [], _, h => by rw [show _ = [] from h]; rfl
  | xs :: xss, _, h => by
    obtain ⟨p, r, vs, rfl, _, _, h3⟩ := h
    rw [List.length_cons, List.length_cons, Rows.len h3]
theorem Rows.at_ {G H : Hp} : ∀ {xss : List (List D)} {ps : List Addr} {j : Nat} {xs : List D}, Rows B G H xss ps → xss[j]? = some xs → ∃ p vs, ps[j]? = some p ∧ H p = some (.lst vs) ∧ RepL B G xs vs
  | [], _, _, _, _, e => by simp at e
  | x :: xss, _, 0, xs, h, e => by
    obtain ⟨p, r, vs, rfl, h1, h2, h3⟩ := h
    simp at e
    subst e
    exact ⟨p, vs, rfl, h1, h2⟩
  | x :: xss, _, j + 1, xs, h, e => by
    obtain ⟨p, r, vs, rfl, h1, h2, h3⟩ := h
    obtain ⟨q, ws, e1, e2, e3⟩ := Rows.at_ h3 (j := j) (by simpa using e)
    exact ⟨q, ws, by simpa using e1, e2, e3⟩
theorem Rows.snoc {G H : Hp} {xs : List D} {p : Addr} {vs : List V} (hp : H p = some (.lst vs)) (r : RepL B G xs vs) : ∀ {xss : List (List D)} {ps : List Addr}, Rows B G H xss ps → Rows B G H (xss ++ [xs]) (ps ++ [p])
  | [], _, h => by
    rw [show _ = [] from h]
    exact ⟨p, [], vs, rfl, hp, r, rfl⟩
  | x :: xss, _, h => by
    obtain ⟨q, w, us, rfl, h1, h2, h3⟩ := h
    exact ⟨q, w ++ [p], us, rfl, h1, h2, Rows.snoc hp r h3⟩
/-- one row otherwise -/
theorem Rows.set {G H : Hp} {p : Addr} {xs : List D} {vs : List V} (r : RepL B G xs vs) : ∀ {xss : List (List D)} {ps : List Addr} {j : Nat}, ps.Nodup → Rows B G H xss ps → ps[j]? = some p → Rows B G (upd H p (.lst vs)) (xss.set j xs) ps
  | [], _, j, _, h, e => by rw [show _ = [] from h] at e; simp at e
  | x :: xss, _, 0, nd, h, e => by
    obtain ⟨q, w, us, rfl, h1, h2, h3⟩ := h
    simp at e
    subst e
    refine ⟨q, w, vs, rfl, upd_same, r, Rows.keep (Same.refl _) (fun a ha o z => ?_) h3⟩
    rw [upd_ne (fun e => by subst e; exact (List.nodup_cons.mp nd).1 ha)]
    exact z
  | x :: xss, _, j + 1, nd, h, e => by
    obtain ⟨q, w, us, rfl, h1, h2, h3⟩ := h
    have e' : w[j]? = some p := by simpa using e
    have pm : p ∈ w := List.mem_of_getElem? e'
    refine ⟨q, w, us, rfl, ?_, h2, Rows.set r (List.nodup_cons.mp nd).2 h3 e'⟩
    rw [upd_ne (fun z => by subst z; exact (List.nodup_cons.mp nd).1 pm)]
    exact h1
/-- a slot gets what was laid meanwhile at the addresses L -/
theorem SR.setN {i : Nat} {L : List Addr} {d : D} {v : V} (s : SR B Oc Om σd σ H) (e : Same H H') (hi : i < σd.length) (hf : ∀ a ∈ L, H a = none) (ha : ∀ a ∈ L, H' a ≠ none) (nd : L.Nodup) (r : OR B (minus H' (Oc ++ (L ++ Om))) H' d v L) :
    SR B Oc (L ++ Om) (σd.set i (some d)) (σ.set i (some v)) H' := by
  obtain ⟨h1, fp, h2, h3, h4⟩ := s
  have h2' : SlotsR B (minus H' (Oc ++ (L ++ Om))) H' σd σ fp := SlotsR.keep (fun a o z => by
    obtain ⟨a1, a2⟩ := minus_some.mp z
    refine minus_some.mpr ⟨fun w => ?_, e _ _ a2⟩
    simp only [List.mem_append] at w a1
    rcases w with w | w | w
    · exact a1 (.inl w)
    · rw [hf a w] at a2; cases a2
    · exact a1 (.inr w)) (fun a _ o q => e a o q) h2
  obtain ⟨f1, f, f2, w, e1, _, _, e4⟩ := h2'.focus (i := i) (d := σd[i]) (by simp [hi])
  subst e1
  have dis : ∀ a ∈ L, a ∉ f1 ++ (f ++ f2) := fun a hl z => h1 a (by simp [(h4 a z).1]) (hf a hl)
  refine ⟨fun a hm => ?_, f1 ++ (L ++ f2), e4 _ H' (some d) (some v) L (Same.refl _) (fun _ _ _ q => q) ⟨v, rfl, r⟩, ?_, fun a hm => ?_⟩
  · simp only [List.mem_append] at hm
    rcases hm with z | z | z
    · exact Same.ne e (h1 a (by simp [z]))
    · exact ha a z
    · exact Same.ne e (h1 a (by simp [z]))
  · have n0 : (f1 ++ f2).Nodup := List.Nodup.sublist (List.Sublist.append (List.Sublist.refl _) (by simp)) h3
    rw [List.nodup_append] at n0 ⊢
    obtain ⟨n1, n2, n3⟩ := n0
    refine ⟨n1, List.nodup_append.mpr ⟨nd, n2, fun a hl b hb z => dis a hl (by rw [z]; simp [hb])⟩, fun a h1 b hb z => ?_⟩
    rcases List.mem_append.mp hb with w | w
    · exact dis b w (by rw [← z]; simp [h1])
    · exact n3 a h1 b w z
  · simp only [List.mem_append] at hm
    rcases hm with z | z | z
    · exact ⟨by simp [(h4 a (by simp [z])).1], (h4 a (by simp [z])).2⟩
    · exact ⟨by simp [z], fun q => h1 a (by simp [q]) (hf a z)⟩
    · exact ⟨by simp [(h4 a (by simp [z])).1], (h4 a (by simp [z])).2⟩
/-- an owned list of lists, and how a row of it may change -/
theorem SR.own2 {i : Nat} {xss : List (List D)} (s : SR B Oc Om σd σ H) (hi : σd[i]? = some (some (.ol2 xss))) : ∃ p ps, σ[i]? = some (some (.ref p)) ∧ H p = some (.lst (ps.map V.ref)) ∧ Rows B (fz H Oc Om) H xss ps ∧
    ∀ j q xs' vs', ps[j]? = some q → RepL B (fz H Oc Om) xs' vs' → SR B Oc Om (σd.set i (some (.ol2 (xss.set j xs')))) σ (upd H q (.lst vs')) ∧ q ∈ Om := by
  obtain ⟨h1, fp, h2, h3, h4⟩ := s
  obtain ⟨f1, f, f2, v, e1, e2, ⟨x, rfl, e3⟩, e4⟩ := h2.focus hi
  subst e1
  unfold OR at e3
  obtain ⟨p, ps, rfl, k1, rfl, k2⟩ := e3
  refine ⟨p, ps, e2, k1, k2, fun j q xs' vs' hq r => ?_⟩
  have qps : q ∈ ps := List.mem_of_getElem? hq
  have qm : q ∈ Om := (h4 q (by simp [qps])).1
  refine ⟨?_, qm⟩
  have em : fz (upd H q (.lst vs')) Oc Om = fz H Oc Om := by
    funext b
    unfold fz minus
    by_cases hb : b = q
    · subst hb; simp [qm]
    · simp [upd_ne hb]
  have nd := h3
  rw [List.nodup_append] at nd
  obtain ⟨n1, n2, n3⟩ := nd
  rw [List.nodup_append] at n2
  obtain ⟨m1, m2, m3⟩ := n2
  have nps := List.nodup_cons.mp m1
  have n4 : q ∉ f2 := fun z => m3 q (by simp [qps]) q z rfl
  have n5 : q ∉ f1 := fun z => n3 q z q (by simp [qps]) rfl
  have pq : p ≠ q := fun z => nps.1 (z ▸ qps)
  have z := e4 (fz (upd H q (.lst vs')) Oc Om) (upd H q (.lst vs')) (some (.ol2 (xss.set j xs'))) (some (.ref p)) (p :: ps) (by rw [em]; exact Same.refl _) (fun a ha o z => by
    rw [upd_ne (fun e => by
      subst e
      rcases List.mem_append.mp ha with w | w
      · exact n5 w
      · exact n4 w)]
    exact z) ⟨.ref p, rfl, by
      unfold OR
      exact ⟨p, ps, rfl, by rw [upd_ne pq]; exact k1, rfl, by rw [em]; exact Rows.set r nps.2 k2 hq⟩⟩
  rw [set_self_opt e2] at z
  refine ⟨fun a ha => ?_, _, z, h3, h4⟩
  by_cases hb : a = q
  · subst hb; rw [upd_same]; exact fun z => nomatch z
  · rw [upd_ne hb]; exact h1 a ha
theorem Rows.rep {G G' H : Hp} (e : Same G G') : ∀ {xss : List (List D)} {ps : List Addr}, Rows B G H xss ps → (∀ p ∈ ps, ∀ o, H p = some o → G' p = some o) → RepL B G' (xss.map D.lst) (ps.map V.ref)
  | [], _, h, _ => by rw [show _ = [] from h]; exact .nil
  | xs :: xss, _, h, k => by
    obtain ⟨p, r, vs, rfl, h1, h2, h3⟩ := h
    refine .cons ?_ (Rows.rep e h3 fun q hq => k q (by simp [hq]))
    unfold Rep
    exact ⟨p, vs, rfl, k p (by simp) _ h1, h2.mono e⟩
/-- let go -/
theorem SR.freeze2 {i : Nat} {xss : List (List D)} (s : SR B Oc Om σd σ H) (hi : σd[i]? = some (some (.ol2 xss))) : ∃ Om', SR B Oc Om' (σd.set i (some (.lst (xss.map D.lst)))) σ H ∧ ∀ a ∈ Om', a ∈ Om := by
  obtain ⟨h1, fp, h2, h3, h4⟩ := s
  obtain ⟨f1, f, f2, v, e1, e2, ⟨x, rfl, e3⟩, e4⟩ := h2.focus hi
  subst e1
  unfold OR at e3
  obtain ⟨p, ps, rfl, k1, rfl, k2⟩ := e3
  have sub : Same (fz H Oc Om) (fz H Oc (Om.filter fun a => decide (a ∉ p :: ps))) := sub_minus fun a ha => by
    rcases List.mem_append.mp ha with z | z
    · simp [z]
    · exact List.mem_append.mpr (.inr (List.mem_filter.mp z).1)
  have there : ∀ q ∈ p :: ps, ∀ o, H q = some o → fz H Oc (Om.filter fun a => decide (a ∉ p :: ps)) q = some o := fun q hq o ho => by
    refine minus_some.mpr ⟨?_, ho⟩
    rw [List.mem_append, not_or]
    exact ⟨(h4 q (by simp only [List.mem_append]; exact .inr (.inl hq))).2, fun z => (of_decide_eq_true (List.mem_filter.mp z).2) hq⟩
  have r : Rep B (fz H Oc (Om.filter fun a => decide (a ∉ p :: ps))) (.lst (xss.map D.lst)) (.ref p) := by
    unfold Rep
    exact ⟨p, ps.map V.ref, rfl, there p (by simp) _ k1, Rows.rep sub k2 fun q hq => there q (by simp [hq])⟩
  have nd := h3
  rw [List.nodup_append] at nd
  obtain ⟨n1, n2, n3⟩ := nd
  rw [List.nodup_append] at n2
  obtain ⟨m1, m2, m3⟩ := n2
  have z := e4 _ H (some (.lst (xss.map D.lst))) (some (.ref p)) [] sub (fun _ _ _ z => z) ⟨.ref p, rfl, (OR_frz rfl).mpr ⟨rfl, r⟩⟩
  rw [set_self_opt e2] at z
  refine ⟨Om.filter fun a => decide (a ∉ p :: ps), ⟨fun a ha => h1 a ?_, _, z, ?_, fun a ha => ?_⟩, fun a ha => (List.mem_filter.mp ha).1⟩
  · rcases List.mem_append.mp ha with z | z
    · simp [z]
    · exact List.mem_append.mpr (.inr (List.mem_filter.mp z).1)
  · exact List.Nodup.sublist (List.Sublist.append (List.Sublist.refl _) (by simp)) h3
  · have hm : a ∈ f1 ∨ a ∈ f2 := by simpa using ha
    have hne : a ∉ p :: ps := fun e => by
      rcases hm with z | z
      · exact n3 a z a (by simp only [List.mem_append]; exact .inl e) rfl
      · exact m3 a e a z rfl
    have hm' := h4 a (by simp only [List.mem_append]; rcases hm with z | z <;> simp [z])
    exact ⟨List.mem_filter.mpr ⟨hm'.1, decide_eq_true hne⟩, hm'.2⟩
end
/-! ### the comprehension -/
def lc2D (own : List Nat) (t : Tgt) (te : Sd → R (List D)) (σ : Sd) : List D → R (List (List D))
  | [] => .ok []
  | d :: ds => (t.put d (clrO own σ)).then fun σ1 => (te σ1).then fun y => (lc2D own t te σ ds).then fun ys => .ok (y :: ys)
def lc2All (own : List Nat) (t : Tgt) (te : Sd → R (List D)) (fi : Sd → R (List D)) : Sd → R (List (List D)) := fun σ => fi σ >>= fun ds => (lc2D own t te σ ds).quiet >>= fun ys => if ys.length ≤ sizeLine then .ok ys else .stuck
section
variable {X : Cx} {W : WX} {e a b vx : Expr} {f fa fb fv : DE} {pos : Pos} {fi : Sd → R (List D)}
theorem lc_read2 {own : List Nat} {t : Tgt} {te : Sd → R (List D)} (hw : ∀ i ∈ t.slots, i ∈ own) {Oc Om : List Addr} {σd : Sd} {σ : L2.St} {H : Hp} {Q : VK} {β : Type} {k : List (List D) → R β} {P : β → Prop}
    (s : SR (bdOf X) Oc Om σd σ H) (h : (lc2All own t te fi σd >>= k).post P (exE (bdOf X) W σ H))
    (hk : ∀ ys p ps H', Same H H' → (∀ a ∈ p :: ps, H a = none) → (∀ a ∈ p :: ps, H' a ≠ none) → (p :: ps).Nodup → OR (bdOf X) (minus H' (Oc ++ ((p :: ps) ++ Om))) H' (.ol2 ys) (.ref p) (p :: ps) → (k ys).post P (exE (bdOf X) W σ H') → Q (.ref p) H') :
    tLc (tI (bdOf X) W fi) (t.g X.K) (tDT (bdOf X) W0 tYesD) (tF (bdOf X) W0 te) own σ H Q := by
  refine ⟨Oc, Om, σd, s, ?_⟩
  cases q : fi σd with
  | stuck => unfold lc2All at h; rw [q] at h; exact h
  | exc c =>
    unfold lc2All at h
    rw [q] at h
    exact h
  | ok ds =>
    unfold lc2All at h
    rw [q] at h
    intro J H1 e1 y D hD
    replace h : (((lc2D own t te σd ds).quiet >>= fun ys => if ys.length ≤ sizeLine then R.ok ys else .stuck) >>= k).post P (exE (bdOf X) W σ H) := h
    cases q2 : lc2D own t te σd ds with
    | stuck => rw [q2] at h; exact h.elim
    | exc c => rw [q2] at h; exact h.elim
    | ok ys =>
      rw [q2] at h
      replace h : ((if ys.length ≤ sizeLine then R.ok ys else .stuck) >>= k).post P (exE (bdOf X) W σ H) := h
      by_cases hz : ys.length ≤ sizeLine
      case neg => rw [if_neg hz] at h; exact h.elim
      rw [if_pos hz] at h
      replace h : (k ys).post P (exE (bdOf X) W σ H) := h
      obtain ⟨Y, w, wy⟩ := y.w
      have s1 := s.same e1
      have hDO := s1.ndO hD
      have nD : D ∉ Om := fun z => hDO (by simp [z])
      have base : SR (bdOf X) (D :: Oc) Om (clrO own σd) (wipe σ own) (upd H1 D (.lst [])) := (s1.temp hD).wipe own
      refine lc_it w (fun i H' => ∃ acc ps zs, H' D = some (.lst (ps.map V.ref)) ∧ SR (bdOf X) (ps ++ D :: Oc) Om (clrO own σd) (wipe σ own) H' ∧ (∀ b o, b ≠ D → H1 b = some o → H' b = some o) ∧ Rows (bdOf X) (minus H' (ps ++ D :: (Oc ++ Om))) H' acc ps ∧
          (∀ a ∈ ps, H1 a = none) ∧ (D :: ps).Nodup ∧ lc2D own t te σd (ds.drop i) = .ok zs ∧ ys = acc ++ zs) ?_ ?_ ?_ ?_
      · exact ⟨[], [], ys, upd_same, base, fun b o hb e => by rw [upd_ne hb]; exact e, rfl, (fun _ z => nomatch z), by simp, by simpa using q2, by simp⟩
      · intro i H' _ ⟨acc, ps, zs, _, _, k1, _⟩ a o ha
        obtain ⟨a1, a2⟩ := minus_some.mp ha
        exact k1 a o (fun z => by rw [z, hD] at a2; cases a2) a2
      · intro i x H' H'' hi ⟨acc, ps, zs, hvs, s', k1, rr, fr, nd, ql, qe⟩ yy
        have sub : Same (fz H1 Oc Om) H' := fun a o ha => by
          obtain ⟨a1, a2⟩ := minus_some.mp ha
          exact k1 a o (fun z => by rw [z, hD] at a2; cases a2) a2
        obtain ⟨e2, wz⟩ := wy i H' x H'' hi sub yy
        have sub2 : Same (fz H1 Oc Om) (fz H' (ps ++ D :: Oc) Om) := fun a o ha => by
          obtain ⟨a1, a2⟩ := minus_some.mp ha
          have ne : a ≠ D := fun z => by rw [z, hD] at a2; cases a2
          have np : a ∉ ps := fun z => by rw [fr a z] at a2; cases a2
          refine minus_some.mpr ⟨?_, k1 a o ne a2⟩
          simp only [List.mem_append, List.mem_cons, not_or] at a1 ⊢
          exact ⟨⟨np, ne, a1.1⟩, a1.2⟩
        obtain ⟨d, hd, r⟩ := wz (ps ++ D :: Oc) Om s'.1 sub2
        have e3 : ds.drop i = d :: ds.drop (i + 1) := by
          obtain ⟨h1, h2⟩ := List.getElem?_eq_some_iff.mp hd
          rw [List.drop_eq_getElem_cons h1, h2]
        rw [e3] at ql
        unfold lc2D at ql
        cases q3 : t.put d (clrO own σd) with
        | stuck => rw [q3] at ql; cases ql
        | exc c => rw [q3] at ql; cases ql
        | ok σ1 =>
          rw [q3] at ql
          refine Tgt.put_ok (B := bdOf X) t (s'.same e2) r q3 fun σ2 s3 hw2 => ⟨(hw2 own hw).trans wipe_idem, ?_⟩
          refine ⟨ps ++ D :: Oc, Om, σ1, s3, ?_⟩
          have k2 : ∀ b o, b ≠ D → H1 b = some o → H'' b = some o := fun b o hb e => e2 _ _ (k1 b o hb e)
          replace ql : ((te σ1).then fun y => (lc2D own t te σd (ds.drop (i + 1))).then fun ys => R.ok (y :: ys)) = R.ok zs := ql
          intro H3 e3
          have s4 := s3.same e3
          refine iteT ⟨ps ++ D :: Oc, Om, σ1, s4, ?_⟩
          cases q5 : te σ1 with
          | stuck => rw [q5] at ql; cases ql
          | exc c => rw [q5] at ql; cases ql
          | ok yv =>
            rw [q5] at ql
            replace ql : ((lc2D own t te σd (ds.drop (i + 1))).then fun ys => R.ok (yv :: ys)) = R.ok zs := ql
            intro p vs H4 e4 hp3 hp4 rv
            cases q6 : lc2D own t te σd (ds.drop (i + 1)) with
            | stuck => rw [q6] at ql; cases ql
            | exc c => rw [q6] at ql; cases ql
            | ok ws =>
              rw [q6] at ql
              replace ql : R.ok (yv :: ws) = R.ok zs := ql
              cases ql
              have e24 : Same H' H4 := e2.trans (e3.trans e4)
              have hv4 : H4 D = some (.lst (ps.map V.ref)) := e24 _ _ hvs
              have pD : p ≠ D := fun z => by
                have := e3 _ _ (e2 _ _ hvs)
                rw [← z, hp3] at this
                cases this
              have pps : p ∉ ps := fun z => by
                have := s4.1 p (by simp [z])
                exact this hp3
              have pO : p ∉ Oc ++ Om := fun z => by
                have := s4.1 p (by
                  rcases List.mem_append.mp z with w | w
                  · simp [w]
                  · simp [w])
                exact this hp3
              have lz : acc.length < ys.length := by rw [qe, List.length_append]; simp
              have p1 : H1 p = none := by
                cases z : H1 p with
                | none => rfl
                | some o =>
                  have := e3 _ _ (k2 p o pD z)
                  rw [hp3] at this
                  cases this
              have sP : SR (bdOf X) (p :: (ps ++ D :: Oc)) Om (clrO own σd) (wipe σ own) H4 := ((s'.same e2).same e3).protect e4 hp3 (by rw [hp4]; exact fun z => nomatch z)
              have sQ : SR (bdOf X) ((ps ++ [p]) ++ D :: Oc) Om (clrO own σd) (wipe σ own) (upd H4 D (.lst ((ps ++ [p]).map V.ref))) := (sP.mem fun a => by simp; constructor <;> (intro z; rcases z with z | z | z | z <;> simp [z])).writeC (by simp) nD
              have rl := rr.len
              have eS : Same (minus H' (ps ++ D :: (Oc ++ Om))) (minus (upd H4 D (.lst ((ps ++ [p]).map V.ref))) ((ps ++ [p]) ++ D :: (Oc ++ Om))) := fun a o ha => by
                obtain ⟨a1, a2⟩ := minus_some.mp ha
                have ne : a ≠ D := fun z => a1 (by simp [z])
                have np : a ≠ p := fun z => by
                  have := e3 _ _ (e2 _ _ a2)
                  rw [z, hp3] at this
                  cases this
                refine minus_some.mpr ⟨?_, by rw [upd_ne ne]; exact e24 _ _ a2⟩
                simp only [List.mem_append, List.mem_cons, not_or, List.not_mem_nil, not_false_eq_true, and_true] at a1 ⊢
                exact ⟨⟨a1.1, np⟩, a1.2⟩
              refine ⟨ps.map V.ref, hv4, by rw [List.length_map, rl]; omega, acc ++ [yv], ps ++ [p], ws, by simp [upd_same], ?_, fun b o hb e => ?_, ?_, fun a ha => ?_, ?_, rfl, by rw [qe, List.append_assoc] <;> rfl⟩
              · simpa using sQ
              · rw [upd_ne hb]
                exact e4 _ _ (e3 _ _ (k2 b o hb e))
              · have rs := Rows.keep (B := bdOf X) (H := H') (H' := upd H4 D (.lst ((ps ++ [p]).map V.ref))) eS (fun a ha o z => by
                  rw [upd_ne (fun q => by subst q; exact (List.nodup_cons.mp nd).1 ha)]
                  exact e24 _ _ z) rr
                have rp : RepL (bdOf X) (minus (upd H4 D (.lst ((ps ++ [p]).map V.ref))) ((ps ++ [p]) ++ D :: (Oc ++ Om))) yv vs := rv.mono fun a o ha => by
                  obtain ⟨a1, a2⟩ := minus_some.mp ha
                  simp only [List.mem_append, List.mem_cons, not_or] at a1
                  refine minus_some.mpr ⟨?_, by rw [upd_ne a1.2.1.2.1]; exact a2⟩
                  simp only [List.mem_append, List.mem_cons, not_or, List.not_mem_nil, not_false_eq_true, and_true]
                  exact ⟨⟨a1.2.1.1, a1.1⟩, a1.2.1.2.1, a1.2.1.2.2, a1.2.2⟩
                have := Rows.snoc (by rw [upd_ne pD]; exact hp4) rp rs
                simpa using this
              · rcases List.mem_append.mp ha with z | z
                · exact fr a z
                · have : a = p := by simpa using z
                  rw [this]; exact p1
              · rw [List.nodup_cons] at nd ⊢
                refine ⟨?_, List.nodup_append.mpr ⟨nd.2, by simp, fun a ha b hb z => ?_⟩⟩
                · simp only [List.mem_append, List.mem_singleton, not_or]
                  exact ⟨nd.1, Ne.symm pD⟩
                · have : b = p := by simpa using hb
                  exact pps (by rw [← this, ← z]; exact ha)
      · intro H' ⟨acc, ps, zs, hvs, s', k1, rr, fr, nd, ql, qe⟩
        rw [List.drop_length] at ql
        cases ql
        rw [List.append_nil] at qe
        subst qe
        have sm : Same H H' := fun b o e => k1 b o (fun z => by rw [z] at e; rw [e1 _ _ e] at hD; cases hD) (e1 _ _ e)
        have back : ∀ a, H1 a = none → H a = none := fun a z => by
          cases w : H a with
          | none => rfl
          | some o => rw [e1 _ _ w] at z; cases z
        refine hk ys D ps H' sm (fun a ha => ?_) (fun a ha => ?_) nd ?_ (R.post_imp h (fun _ _ p => p) fun c _ z => z.mono sm)
        · rcases List.mem_cons.mp ha with z | z
          · rw [z]; exact back D hD
          · exact back a (fr a z)
        · rcases List.mem_cons.mp ha with z | z
          · rw [z, hvs]; exact fun q => nomatch q
          · exact s'.1 a (by simp [z])
        · unfold OR
          refine ⟨D, ps, rfl, hvs, rfl, ?_⟩
          have em : minus H' (ps ++ D :: (Oc ++ Om)) = minus H' (Oc ++ ((D :: ps) ++ Om)) := minus_mem fun a => by simp; constructor <;> (intro z; rcases z with z | z | z | z <;> simp [z])
          rw [← em]
          exact rr
def sSetO2 (i : Nat) (f : Sd → R (List (List D))) : DS := fun σ => (f σ).toOut σ fun ds => if i < σ.length then .next (σ.set i (some (.ol2 ds))) else .stuck
variable {elt tg iter : Expr} {scope : Scope} {own : List (Str × Nat)} {te : Sd → R (List D)}
theorem sd_lc2 (t : Tgt) {i : Nat} {y : Str} {py spos : Pos} (hc : X.calm = true) (hN : X.N.Nodup) (hy : X.N[i]? = some y) (hyl : X.env.scope.names.lookup y = some .local)
    (hsw : swapsWith (.ListComp elt [⟨tg, iter, [], 0⟩] scope pos) (some (.Name y py)) spos.line X.env = pure true) (hi : ID X W tg iter fi) (ok : BlkOk X.N X.env.scope scope own) (hw : ∀ i ∈ t.slots, i ∈ own.map (·.2))
    (hg : ∀ (s : Shared) (H : Hp) (C : Addr) (cl : List (Str × Addr)) (fp : List Addr), PG (X.blk s H scope (compEnvC scope cl C X.env) fp) tg (t.g X.K)) (ht : ∀ (s : Shared) (H : Hp) (C : Addr) (cl : List (Str × Addr)) (fp : List Addr), ID0 (X.blk s H scope (compEnvC scope cl C X.env) fp) [] tYesD)
    (he : ∀ (s : Shared) (H : Hp) (C : Addr) (cl : List (Str × Addr)) (fp : List Addr), NDx (X.blk s H scope (compEnvC scope cl C X.env) fp) W0 elt te) (hs : ∀ x, foldedSetIterable iter X.env x = pure x := by intro _; rfl) :
    SD X W (.Assign [.Name y py] (.ListComp elt [⟨tg, iter, [], 0⟩] scope pos) spos) (sSetO2 i (lc2All (own.map (·.2)) t te fi)) :=
  ps_imp (ps_setLc hc hN hy hyl hsw hi ok hg ht he hs) fun Dn σ H ⟨Oc, Om, σd, s, h⟩ => by
    cases q : lc2All (own.map (·.2)) t te fi σd with
    | stuck => unfold sSetO2 at h; rw [q] at h; exact h.elim
    | exc c =>
      unfold sSetO2 at h
      rw [q] at h
      refine lc_read2 (W := W) (te := te) (P := fun _ : Unit => True) (k := fun _ => R.stuck) hw s ?_ (fun _ _ _ _ _ _ _ _ _ z => z.elim)
      rw [q]
      exact fun C H' hc e => h C σ Om H' hc (s.same e) (.of_same e)
    | ok ys =>
      unfold sSetO2 at h
      rw [q] at h
      replace h : (if i < σd.length then Out.next (σd.set i (some (.ol2 ys))) else .stuck).all (bdOf X) W Oc Om H Dn := h
      by_cases hl : i < σd.length
      case neg => rw [if_neg hl] at h; exact h.elim
      rw [if_pos hl] at h
      refine lc_read2 (W := W) (te := te) (P := fun zs => zs = ys) (k := fun zs => R.ok zs) hw s ?_ (fun zs p ps H' e1 hf ha nd r pz => ?_)
      · rw [q]
        exact rfl
      · have e : zs = ys := pz
        subst e
        exact h _ ((p :: ps) ++ Om) H' (s.setN e1 hl hf ha nd r) ⟨fun _ _ _ z => e1 _ _ z, fun a ha => by
          rcases List.mem_append.mp ha with z | z
          · exact .inr (hf a z)
          · exact .inl z⟩
/-! ### a row of it set, let go -/
def ol2At (i : Nat) (σ : Sd) (k : List (List D) → Out) : Out := match σ[i]? with
  | some (some (.ol2 xs)) => k xs
  | _ => .stuck
theorem ol2At_post {i : Nat} {σd : Sd} {k : List (List D) → Out} {B : Bd} {Oc Om : List Addr} {H : Hp} {Dn : L2.Ends} (h : (ol2At i σd k).all B W Oc Om H Dn) : ∃ xs, σd[i]? = some (some (.ol2 xs)) ∧ (k xs).all B W Oc Om H Dn := by
  unfold ol2At at h
  split at h
  · exact ⟨_, by assumption, h⟩
  · exact h.elim
def rowAt (xss : List (List D)) (d : D) (k : Nat → List D → Out) : Out := match d with
  | .int m => (match ixN xss.length m with
    | some j => (match xss[j]? with
      | some xs => k j xs
      | none => .stuck)
    | none => .stuck)
  | _ => .stuck
theorem rowAt_post {xss : List (List D)} {d : D} {k : Nat → List D → Out} {B : Bd} {Oc Om : List Addr} {H : Hp} {Dn : L2.Ends} (h : (rowAt xss d k).all B W Oc Om H Dn) : ∃ m j xs, d = .int m ∧ ixN xss.length m = some j ∧ xss[j]? = some xs ∧ (k j xs).all B W Oc Om H Dn := by
  unfold rowAt at h
  split at h
  · split at h
    · split at h
      · exact ⟨_, _, _, rfl, by assumption, by assumption, h⟩
      · exact h.elim
    · exact h.elim
  · exact h.elim
def setK2 (i : Nat) (σ : Sd) (xss : List (List D)) (d : D) (j : Nat) (xs : List D) : D → Out
  | .int n => (match ixN xs.length n with
    | some l => .next (σ.set i (some (.ol2 (xss.set j (xs.set l d)))))
    | none => .stuck)
  | _ => .stuck
/-- x[e][e2] = v -/
def sSetIx2 (i : Nat) (f1 f2 fv : DE) : DS := fun σ => (fv σ).toOut σ fun d => ol2At i σ fun xss => (f1 σ).toOut σ fun k => rowAt xss k fun j xs => (f2 σ).toOut σ (setK2 i σ xss d j xs)
theorem sd_setIx2 {o e1 e2 : Expr} {i : Nat} {f1 f2 : DE} {tpos tpos2 : Pos} (hv : ED X W vx fv) (hsub : PG X (.Subscript (.Subscript o e1 tpos) e2 tpos2) (gSub (tOp (rIxL X.K) (tVar i) (tD (bdOf X) W f1)) (tD (bdOf X) W f2) rSetL))
    (hs : swapsWithSole [.Subscript (.Subscript o e1 tpos) e2 tpos2] vx pos.line X.env = pure false := by rfl) (hw : swappedStores [.Subscript (.Subscript o e1 tpos) e2 tpos2] vx X.env = pure none := by rfl) : SD X W (.Assign [.Subscript (.Subscript o e1 tpos) e2 tpos2] vx pos) (sSetIx2 i f1 f2 fv) :=
  ps_imp (ps_asg hv hsub hs hw) fun Dn σ H ⟨Oc, Om, σd, s, h⟩ => by
    refine toOut_seq s h fun d v H1 e1 r s1 h1 => ?_
    obtain ⟨xss, hx, h1⟩ := ol2At_post h1
    obtain ⟨p, ps, k1, k2, k3, k4⟩ := s1.own2 hx
    refine ⟨.ref p, k1, ?_⟩
    refine toOut_seq s1 h1 fun k u H2 e2 r2 s2 h2 => ?_
    obtain ⟨m, j, xs, rfl, q1, q2, h2⟩ := rowAt_post h2
    cases r2
    obtain ⟨p', ps', k1', k2', k3', k4'⟩ := s2.own2 hx
    rw [k1] at k1'
    cases k1'
    obtain ⟨q, vs, a1, a2, a3⟩ := k3'.at_ q2
    have at1 : atI (ps'.map V.ref) m = some (.ref q) := by
      unfold atI
      rw [List.length_map, k3'.len, q1]
      simp [a1]
    refine ⟨p, ps'.map V.ref, m, .ref q, rfl, rfl, SqL.of k2', at1, ?_⟩
    refine toOut_seq s2 h2 fun l w H3 e3 r3 s3 h3 => ?_
    obtain ⟨p2, ps2, b1, b2, b3, b4⟩ := s3.own2 hx
    rw [k1] at b1
    cases b1
    have e12 : ps2 = ps' := by
      have z := e3 _ _ k2'
      rw [b2] at z
      have inj : ∀ {xs ys : List Addr}, xs.map V.ref = ys.map V.ref → xs = ys := by
        intro xs
        induction xs with
        | nil => intro ys h; cases ys with
          | nil => rfl
          | cons => simp at h
        | cons x xs ih => intro ys h; cases ys with
          | nil => simp at h
          | cons y ys =>
            simp only [List.map_cons, List.cons.injEq] at h
            rw [ih h.2]
            have : x = y := by injection h.1
            rw [this]
      injection z with z
      injection z with z
      exact inj z
    subst e12
    obtain ⟨q', vs', c1, c2, c3⟩ := b3.at_ q2
    rw [a1] at c1
    cases c1
    cases l with
    | int n =>
      cases r3
      replace h3 : (match ixN xs.length n with
        | some l => Out.next (σd.set i (some (.ol2 (xss.set j (xs.set l d)))))
        | none => .stuck).all (bdOf X) W Oc Om H3 Dn := h3
      split at h3
      · rename_i l hl
        obtain ⟨st, qm⟩ := b4 j q (xs.set l d) (vs'.set l v) a1 (c3.set (r.mono (same_minus (e2.trans e3))))
        exact ⟨q, vs', n, l, rfl, rfl, c2, by rw [c3.length]; exact hl, h3 σ Om _ st (ext_w qm)⟩
      · exact h3.elim
    | _ => exact h3.elim
def sFrz2 (i : Nat) (g : DS) : DS := fun σ => ol2At i σ fun xss => g (σ.set i (some (.lst (xss.map .lst))))
theorem sds_frz2 (i : Nat) {sts : List Stmt} {g : DS} (h1 : SDs X W sts g) : SDs X W sts (sFrz2 i g) := pss_imp h1 fun Dn σ H ⟨Oc, Om, σd, s, h⟩ => by
  obtain ⟨xs, hx, h⟩ := ol2At_post h
  obtain ⟨Om', s', sub⟩ := s.freeze2 hx
  exact ⟨Oc, Om', _, s', Out.all_ext (ext_less sub) h⟩
end
end FF
set_option maxHeartbeats 4000000
/-! <= of tuples of whole numbers -/
namespace FF
open PySem PySem.Spec PyProof.Rows L2
def leTD : D → D → R D
  | .tup xs, .tup ys => match FF.intsOf xs, FF.intsOf ys with
    | some ns, some ms => .ok (.bl (Ob.lexAt (fun j => decide (ns.getD j 0 = ms.getD j 0)) (fun j => decide (ns.getD j 0 ≤ ms.getD j 0)) (decide (ns.length ≤ ms.length)) 0 (min ns.length ms.length)))
    | _, _ => .stuck
  | _, _ => .stuck
section
variable {X : Cx} {W : Wd}
theorem op_leTD (h : Rm X) : OpR X (compareOp .LtE) (rLeT X.K) := op_leT (Nat.lt_of_le_of_lt (Nat.le_add_right _ 200) h)
theorem sem_leT : Sem2 (bdOf X) (rLeT X.K) leTD := by
  intro Oc Om H x y u v Q hO rx ry h
  cases x <;> cases y <;> first | exact h.elim | skip
  rename_i xs ys
  unfold leTD at h
  cases hn : FF.intsOf xs with
  | none => simp only [hn] at h; exact h.elim
  | some ns =>
    cases hm : FF.intsOf ys with
    | none => simp only [hn, hm] at h; exact h.elim
    | some ms =>
      simp only [hn, hm] at h
      obtain ⟨a, vs, rfl, p1, p2⟩ := (rep_sq rx)
      obtain ⟨b, ws, rfl, q1, q2⟩ := (rep_sq ry)
      rw [p2.intsOf hn] at p1
      rw [q2.intsOf hm] at q1
      exact ⟨a, b, ns, ms, rfl, rfl, Same.seqT minus_sub p1, Same.seqT minus_sub q1, h _ H (Same.refl _) rfl⟩
end
end FF
set_option maxHeartbeats 4000000
/-! zip of a tuple and a list -/
namespace FF
open PySem PySem.Spec PyProof.Rows L2
/-- what zip draws from: the iterator at it, over xs at l -/
structure Feed (prog : Program) (w : World) (it l : Addr) (xs : Array Value) where
  St : Nat → Heap → Prop
  keep : ∀ {k : Nat} {h h' : Heap}, St k h → (∀ c, c = it ∨ c = l → ∀ o, h.get? c = some o → h'.get? c = some o) → St k h'
  item : ∀ {A : Around} {s : Shared} {k : Nat} {x : Value} {Q : Value → Shared → Prop} {E : Value → Shared → Prop}, St k s.heap → xs[k]? = some x →
    (∀ h', St (k + 1) h' → Heap.SameBut it s.heap h' → Q x { s with heap := h' }) → wpAny (model prog w) A (Builtin.SmallTypes.nextOf (.ref it)) Q E s
  fin : ∀ {A : Around} {s : Shared} {k : Nat} {Q : Value → Shared → Prop} {E : Value → Shared → Prop}, A.handled = none → St k s.heap → xs[k]? = none →
    (∀ h' e, Heap.ExtBut it s.heap h' → (∃ o, h'.get? e = some o ∧ o.cls = .type "StopIteration") → E (.ref e) { s with heap := h' }) → wpAny (model prog w) A (Builtin.SmallTypes.nextOf (.ref it)) Q E s
def feedL (prog : Program) (w : World) (it l : Addr) (xs : Array Value) (hn : l ≠ it) : Feed prog w it l xs where
  St := fun k h => h.IsListIter it l k ∧ h.IsList l xs
  keep := fun st e => ⟨st.1.at (e _ (.inl rfl)), st.2.at (e _ (.inr rfl))⟩
  item := fun st hx hQ => wpAny_nextOf_list_item st.1 st.2 hx fun h' i1 sb => hQ h' ⟨i1, st.2.extBut sb.extBut hn⟩ sb
  fin := fun hh st hx hE => wpAny_nextOf_list_end hh st.1 st.2 hx hE
def feedT (prog : Program) (w : World) (it l : Addr) (xs : Array Value) (hn : l ≠ it) : Feed prog w it l xs where
  St := fun k h => h.IsTupleIter it l k ∧ h.IsTuple l xs
  keep := fun st e => ⟨st.1.at (e _ (.inl rfl)), st.2.at (e _ (.inr rfl))⟩
  item := fun st hx hQ => RZ.nextOf_tuple_item st.1 st.2 hx fun h' i1 sb => hQ h' ⟨i1, st.2.extBut sb.extBut hn⟩ sb
  fin := fun hh st hx hE => RZ.nextOf_tuple_end hh st.1 st.2 hx hE
section
variable {prog : Program} {w : World} {A : Around} {E : Value → Shared → Prop} {s : Shared}
theorem feed_next_item {z TI TO i1 i2 l1 l2 : Addr} {k1 k2 : Nat} {xs ys : Array Value} {x y a b : Value} {Q : Value → Shared → Prop} (D : ZipApart z TI TO i1 i2 l1 l2) (F1 : Feed prog w i1 l1 xs) (F2 : Feed prog w i2 l2 ys)
    (hz : IsZip s.heap z TI TO .none) (hTI : IsPair s.heap TI (.ref i1) (.ref i2)) (hTO : IsPair s.heap TO a b) (h1 : F1.St k1 s.heap) (h2 : F2.St k2 s.heap) (hx : xs[k1]? = some x) (hy : ys[k2]? = some y)
    (hQ : ∀ h', IsZip h' z TI TO (rawInt s.heap.objs.size) → IsPair h' TO x y → F1.St (k1 + 1) h' → F2.St (k2 + 1) h' → IsPair h' s.heap.objs.size x y →
      (∀ c o, c ≠ z → c ≠ TO → c ≠ i1 → c ≠ i2 → s.heap.get? c = some o → h'.get? c = some o) → Q (.ref s.heap.objs.size) { s with heap := h' }) :
    wpAny (model prog w) A (Builtin.«zip.__next__» ⟨[.ref z], []⟩) (fun fin s' => ∃ v, fin = .done (.ret v) ∧ Q v s') E s := by
  have n1 : ∀ c, c = i1 ∨ c = l1 → c ≠ z ∧ c ≠ TO ∧ c ≠ i2 := fun c hc => by
    rcases hc with rfl | rfl
    · exact ⟨D.i1z, D.TOi1.symm, D.i12⟩
    · exact ⟨D.l1z, D.l1TO, D.l1i2⟩
  have n2 : ∀ c, c = i2 ∨ c = l2 → c ≠ z ∧ c ≠ TO ∧ c ≠ i1 := fun c hc => by
    rcases hc with rfl | rfl
    · exact ⟨D.i2z, D.TOi2.symm, D.i12.symm⟩
    · exact ⟨D.l2z, D.l2TO, D.l2i1⟩
  show wpAny _ _ (field (.ref z) 2 >>= _) _ _ _
  refine wpAny_bind (wpAny_field hz rfl (x := .bool false) rfl ?_)
  show wpAny _ _ (field (.ref z) 3 >>= _) _ _ _
  refine wpAny_bind (wpAny_field hz rfl (x := .ref TI) rfl ?_)
  refine wpAny_bind (wpAny_seqItems hTI rfl ?_)
  show wpAny _ _ (Builtin.SmallTypes.ownedTupleIsFree (.ref z) >>= _) _ _ _
  refine wpAny_bind ?_
  unfold Builtin.SmallTypes.ownedTupleIsFree
  refine wpAny_bind (wpAny_field hz rfl (x := .none) rfl (wpAny_pure ?_))
  simp only [if_true]
  refine wpAny_bind (wpAny_rule ?_)
  refine wpAny_bind (wpAny_field hz rfl (x := .ref TO) rfl ?_)
  refine wpAny_bind (wpAny_setField_rec hz (by simp) fun g1 z1 b1 => ?_)
  replace z1 : IsZip g1 z TI TO .ellipsis := z1
  refine wpAny_bind ?_
  simp only [List.zipIdx_cons, List.zipIdx_nil, List.forIn_cons, List.forIn_nil]
  refine wpAny_bind (wpAny_bind (wpAny_onRaise ?_))
  show wpAny _ _ (Builtin.SmallTypes.nextOf (.ref i1) >>= _) _ _ _
  refine wpAny_bind (F1.item (F1.keep h1 fun c hc o e => b1.extBut _ _ (n1 c hc).1 e) hx fun g2 f1 b2 => wpAny_pure ?_)
  have p2 : IsPair g2 TO a b := b2.extBut _ _ D.TOi1 (b1.extBut _ _ D.TOz hTO)
  refine wpAny_bind (wpAny_seqItems p2 rfl ?_)
  refine wpAny_bind (wpAny_updateSeq_pair p2 fun g3 p3 b3 => ?_)
  replace p3 : IsPair g3 TO x b := p3
  refine wpAny_bind (wpAny_letGo (wpAny_pure ?_))
  refine wpAny_bind (wpAny_bind (wpAny_onRaise ?_))
  show wpAny _ _ (Builtin.SmallTypes.nextOf (.ref i2) >>= _) _ _ _
  refine wpAny_bind (F2.item (F2.keep h2 fun c hc o e => b3.extBut _ _ (n2 c hc).2.1 (b2.extBut _ _ (n2 c hc).2.2 (b1.extBut _ _ (n2 c hc).1 e))) hy fun g4 f2 b4 => wpAny_pure ?_)
  have p4 : IsPair g4 TO x b := b4.extBut _ _ D.TOi2 p3
  refine wpAny_bind (wpAny_seqItems p4 rfl ?_)
  refine wpAny_bind (wpAny_updateSeq_pair p4 fun g5 p5 b5 => ?_)
  replace p5 : IsPair g5 TO x y := p5
  refine wpAny_bind (wpAny_letGo (wpAny_pure (wpAny_pure ?_)))
  refine wpAny_bind (wpAny_seqItems p5 rfl ?_)
  refine wpAny_bind (wpAny_newTuple ?_)
  have hsz : g5.objs.size = s.heap.objs.size := by rw [b5.1, b4.1, b3.1, b2.1, b1.1]
  have z5 : IsZip g5 z TI TO .ellipsis := b5.extBut _ _ D.TOz.symm (b4.extBut _ _ D.i2z.symm (b3.extBut _ _ D.TOz.symm (b2.extBut _ _ D.i1z.symm z1)))
  have k5 : ∀ c o, c ≠ z → c ≠ TO → c ≠ i1 → c ≠ i2 → s.heap.get? c = some o → g5.get? c = some o := fun c o c1 c2 c3 c4 e =>
    b5.extBut _ _ c2 (b4.extBut _ _ c4 (b3.extBut _ _ c2 (b2.extBut _ _ c3 (b1.extBut _ _ c1 e))))
  have s1 : F1.St (k1 + 1) g5 := F1.keep f1 fun c hc o e => b5.extBut _ _ (n1 c hc).2.1 (b4.extBut _ _ (n1 c hc).2.2 (b3.extBut _ _ (n1 c hc).2.1 e))
  have s2 : F2.St (k2 + 1) g5 := F2.keep f2 fun c hc o e => b5.extBut _ _ (n2 c hc).2.1 e
  have hzl : z < g5.objs.size := Heap.lt_size z5
  show wpAny _ _ (Builtin.SmallTypes.ownedTupleHandOut (.ref z) (.ref g5.objs.size) >>= _) _ _ _
  refine wpAny_bind ?_
  unfold Builtin.SmallTypes.ownedTupleHandOut
  have z6 : IsZip (g5.push { cls := .type "tuple", data := .seq #[x, y] }) z TI TO .ellipsis := Heap.get?_push_of_some _ z5
  refine wpAny_bind (wpAny_setField_rec z6 (by simp) fun g7 z7 b7 => ?_)
  replace z7 : IsZip g7 z TI TO (rawInt g5.objs.size) := z7
  refine wpAny_setField_rec z7 (by simp) fun g8 z8 b8 => ?_
  replace z8 : IsZip g8 z TI TO (rawInt g5.objs.size) := z8
  have up : ∀ c o, c ≠ z → g5.get? c = some o → g8.get? c = some o := fun c o c1 e => b8.extBut _ _ c1 (b7.extBut _ _ c1 (Heap.get?_push_of_some _ e))
  have t8 : IsPair g8 g5.objs.size x y := b8.extBut _ _ (Nat.ne_of_gt hzl) (b7.extBut _ _ (Nat.ne_of_gt hzl) (Heap.get?_push_size _ rfl))
  rw [hsz] at z8 t8
  refine wpAny_pure ⟨_, rfl, ?_⟩
  show Q (.ref g5.objs.size) _
  rw [hsz]
  exact hQ g8 z8 (up _ _ D.TOz p5) (F1.keep s1 fun c hc o e => up c o (n1 c hc).1 e) (F2.keep s2 fun c hc o e => up c o (n2 c hc).1 e) t8 fun c o c1 c2 c3 c4 e => up c o c1 (k5 c o c1 c2 c3 c4 e)
theorem feed_next_end {z TI TO i1 i2 l1 l2 : Addr} {k1 k2 : Nat} {xs ys : Array Value} {a b : Value} {Q : Fin → Shared → Prop} (hh : A.handled = none) (D : ZipApart z TI TO i1 i2 l1 l2) (F1 : Feed prog w i1 l1 xs) (F2 : Feed prog w i2 l2 ys)
    (hz : IsZip s.heap z TI TO .none) (hTI : IsPair s.heap TI (.ref i1) (.ref i2)) (hTO : IsPair s.heap TO a b) (h1 : F1.St k1 s.heap) (h2 : F2.St k2 s.heap) (hend : xs[k1]? = none ∨ ys[k2]? = none)
    (hE : ∀ h' e, (∀ c o, c ≠ z → c ≠ TO → c ≠ i1 → c ≠ i2 → s.heap.get? c = some o → h'.get? c = some o) → (∃ o, h'.get? e = some o ∧ o.cls = .type "StopIteration") → E (.ref e) { s with heap := h' }) :
    wpAny (model prog w) A (Builtin.«zip.__next__» ⟨[.ref z], []⟩) Q E s := by
  have n1 : ∀ c, c = i1 ∨ c = l1 → c ≠ z := fun c hc => by
    rcases hc with rfl | rfl
    · exact D.i1z
    · exact D.l1z
  have n2 : ∀ c, c = i2 ∨ c = l2 → c ≠ z ∧ c ≠ TO ∧ c ≠ i1 := fun c hc => by
    rcases hc with rfl | rfl
    · exact ⟨D.i2z, D.TOi2.symm, D.i12.symm⟩
    · exact ⟨D.l2z, D.l2TO, D.l2i1⟩
  show wpAny _ _ (field (.ref z) 2 >>= _) _ _ _
  refine wpAny_bind (wpAny_field hz rfl (x := .bool false) rfl ?_)
  show wpAny _ _ (field (.ref z) 3 >>= _) _ _ _
  refine wpAny_bind (wpAny_field hz rfl (x := .ref TI) rfl ?_)
  refine wpAny_bind (wpAny_seqItems hTI rfl ?_)
  show wpAny _ _ (Builtin.SmallTypes.ownedTupleIsFree (.ref z) >>= _) _ _ _
  refine wpAny_bind ?_
  unfold Builtin.SmallTypes.ownedTupleIsFree
  refine wpAny_bind (wpAny_field hz rfl (x := .none) rfl (wpAny_pure ?_))
  simp only [if_true]
  refine wpAny_bind (wpAny_rule ?_)
  refine wpAny_bind (wpAny_field hz rfl (x := .ref TO) rfl ?_)
  refine wpAny_bind (wpAny_setField_rec hz (by simp) fun g1 z1 b1 => ?_)
  replace z1 : IsZip g1 z TI TO .ellipsis := z1
  refine wpAny_bind ?_
  simp only [List.zipIdx_cons, List.zipIdx_nil, List.forIn_cons, List.forIn_nil]
  refine wpAny_bind (wpAny_bind (wpAny_onRaise ?_))
  show wpAny _ _ (Builtin.SmallTypes.nextOf (.ref i1) >>= _) _ _ _
  cases hx : xs[k1]? with
  | none =>
    refine wpAny_bind (F1.fin hh (F1.keep h1 fun c hc o e => b1.extBut _ _ (n1 c hc) e) hx fun g2 e b2 he => ?_)
    obtain ⟨oe, hoe, hce⟩ := he
    have z2 : IsZip g2 z TI TO .ellipsis := b2 _ _ D.i1z.symm z1
    have hez : e ≠ z := fun q => by rw [q, z2] at hoe; cases hoe; simp at hce
    exact wpAny_setField_rec z2 (by simp) fun g3 _ b3 => hE g3 e (fun c o c1 _ c3 _ q => b3.extBut _ _ c1 (b2 _ _ c3 (b1.extBut _ _ c1 q))) ⟨oe, b3.extBut _ _ hez hoe, hce⟩
  | some x =>
    have hy : ys[k2]? = none := by
      rcases hend with q | q
      · rw [hx] at q; cases q
      · exact q
    refine wpAny_bind (F1.item (F1.keep h1 fun c hc o e => b1.extBut _ _ (n1 c hc) e) hx fun g2 f1 b2 => wpAny_pure ?_)
    have p2 : IsPair g2 TO a b := b2.extBut _ _ D.TOi1 (b1.extBut _ _ D.TOz hTO)
    refine wpAny_bind (wpAny_seqItems p2 rfl ?_)
    refine wpAny_bind (wpAny_updateSeq_pair p2 fun g3 p3 b3 => ?_)
    refine wpAny_bind (wpAny_letGo (wpAny_pure ?_))
    refine wpAny_bind (wpAny_bind (wpAny_onRaise ?_))
    show wpAny _ _ (Builtin.SmallTypes.nextOf (.ref i2) >>= _) _ _ _
    refine wpAny_bind (F2.fin hh (F2.keep h2 fun c hc o e => b3.extBut _ _ (n2 c hc).2.1 (b2.extBut _ _ (n2 c hc).2.2 (b1.extBut _ _ (n2 c hc).1 e))) hy fun g4 e b4 he => ?_)
    obtain ⟨oe, hoe, hce⟩ := he
    have z4 : IsZip g4 z TI TO .ellipsis := b4 _ _ D.i2z.symm (b3.extBut _ _ D.TOz.symm (b2.extBut _ _ D.i1z.symm z1))
    have hez : e ≠ z := fun q => by rw [q, z4] at hoe; cases hoe; simp at hce
    exact wpAny_setField_rec z4 (by simp) fun g5 _ b5 => hE g5 e (fun c o c1 c2 c3 c4 q => b5.extBut _ _ c1 (b4 _ _ c4 (b3.extBut _ _ c2 (b2.extBut _ _ c3 (b1.extBut _ _ c1 q))))) ⟨oe, b5.extBut _ _ hez hoe, hce⟩
theorem feed_pyNext_item {z TI TO i1 i2 l1 l2 : Addr} {k1 k2 : Nat} {xs ys : Array Value} {x y a b : Value} {Q : Option Value → Shared → Prop} (D : ZipApart z TI TO i1 i2 l1 l2) (F1 : Feed prog w i1 l1 xs) (F2 : Feed prog w i2 l2 ys)
    (hz : IsZip s.heap z TI TO .none) (hTI : IsPair s.heap TI (.ref i1) (.ref i2)) (hTO : IsPair s.heap TO a b) (h1 : F1.St k1 s.heap) (h2 : F2.St k2 s.heap) (hx : xs[k1]? = some x) (hy : ys[k2]? = some y)
    (hQ : ∀ h', IsZip h' z TI TO (rawInt s.heap.objs.size) → IsPair h' TO x y → F1.St (k1 + 1) h' → F2.St (k2 + 1) h' → IsPair h' s.heap.objs.size x y →
      (∀ c o, c ≠ z → c ≠ TO → c ≠ i1 → c ≠ i2 → s.heap.get? c = some o → h'.get? c = some o) → Q (some (.ref s.heap.objs.size)) { s with heap := h' }) :
    wpAny (model prog w) A (pyNext (.ref z)) Q E s := by
  have hT : s.TypeIs (.ref z) "zip" := ⟨_, hz, rfl⟩
  unfold pyNext
  exact wpAny_bind (wpAny_attempt (wpAny_callSpecial?_slot (name := Str.ofString "__next__") hT PySem.F.slot_zip_next
    (wpAny_call_entry PySem.F.slot_zip_next hT PySem.F.entry_zip_next
      (feed_next_item D F1 F2 hz hTI hTO h1 h2 hx hy fun h' a1 a2 a3 a4 a5 a6 => wpAny_pure (hQ h' a1 a2 a3 a4 a5 a6)) (PySem.F.args_zip_next_1 _))))
theorem feed_pyNext_end {z TI TO i1 i2 l1 l2 : Addr} {k1 k2 : Nat} {xs ys : Array Value} {a b : Value} {Q : Option Value → Shared → Prop} (hh : A.handled = none) (D : ZipApart z TI TO i1 i2 l1 l2) (F1 : Feed prog w i1 l1 xs) (F2 : Feed prog w i2 l2 ys)
    (hz : IsZip s.heap z TI TO .none) (hTI : IsPair s.heap TI (.ref i1) (.ref i2)) (hTO : IsPair s.heap TO a b) (h1 : F1.St k1 s.heap) (h2 : F2.St k2 s.heap) (hend : xs[k1]? = none ∨ ys[k2]? = none)
    (hQ : ∀ h', (∀ c o, c ≠ z → c ≠ TO → c ≠ i1 → c ≠ i2 → s.heap.get? c = some o → h'.get? c = some o) → Q none { s with heap := h' }) : wpAny (model prog w) A (pyNext (.ref z)) Q E s := by
  have hT : s.TypeIs (.ref z) "zip" := ⟨_, hz, rfl⟩
  unfold pyNext
  refine wpAny_bind (wpAny_attempt (wpAny_callSpecial?_slot (name := Str.ofString "__next__") hT PySem.F.slot_zip_next
    (wpAny_call_entry PySem.F.slot_zip_next hT PySem.F.entry_zip_next (feed_next_end hh D F1 F2 hz hTI hTO h1 h2 hend fun h' e hk he => ?_) (PySem.F.args_zip_next_1 _))))
  obtain ⟨o, ho, hc⟩ := he
  refine wpAny_bind (wpAny_isInstance (T := "StopIteration") (b := true) ⟨o, ho, hc⟩ isSubtype_stop ?_)
  exact wpAny_pure (hQ _ hk)
end
abbrev hpM1 (h : Heap) (l1 : Addr) : Heap := h.push { cls := .type "tuple_iterator", data := .fields #[.ref l1, .int 0 0] }
abbrev hpM2 (h : Heap) (l1 l2 : Addr) : Heap := (hpM1 h l1).push { cls := .type "list_iterator", data := .fields #[.ref l2, .int 0 0] }
abbrev hpM3 (h : Heap) (l1 l2 : Addr) : Heap := (hpM2 h l1 l2).push { cls := .type "tuple", data := .seq #[.ref h.objs.size, .ref (hpM1 h l1).objs.size] }
abbrev hpM4 (h : Heap) (l1 l2 : Addr) : Heap := (hpM3 h l1 l2).push { cls := .type "tuple", data := .seq #[.none, .none] }
abbrev hpM5 (h : Heap) (l1 l2 : Addr) : Heap := (hpM4 h l1 l2).push { cls := .type "zip", data := .fields #[.none, .bool false, .bool false, .ref (hpM2 h l1 l2).objs.size, .ref (hpM3 h l1 l2).objs.size] }
theorem meets_zipM (l1 l2 : Addr) (xs ys : Array Value) :
    Meets (Builtin.«zip.__new__» ⟨[.type "zip", .ref l1, .ref l2], []⟩) (fun _ R s => s.heap.IsTuple l1 xs ∧ s.heap.IsList l2 ys ∧
      R (.ok (.ret (.ref (hpM4 s.heap l1 l2).objs.size))) { s with heap := hpM5 s.heap l1 l2 }) :=
  .of_wp fun prog w A R s h => by
    obtain ⟨hp, g, d, tk, os⟩ := s; obtain ⟨hl1, hl2, h⟩ := h
    have hsub := sub_zip
    have hL1 : Heap.IsTuple (Shared.heap ⟨hp, g, d, tk, os⟩) l1 xs := hl1
    have hL2 : Heap.IsList (Shared.heap ⟨hp.push { cls := .type "tuple_iterator", data := .fields #[.ref l1, .int 0 0] }, g, d, tk, os⟩) l2 ys := Heap.IsList.push hl2 _
    wp_walk using wpAny_pyIter_tuple hL1, wpAny_pyIter_list hL2
    exact ⟨_, rfl, h⟩
end FF
set_option maxHeartbeats 4000000
namespace FF
open PySem PySem.Spec PyProof.Rows L2
section
variable {prog : Program} {w : World} {A : Around} {E : Value → Shared → Prop} {s : Shared}
theorem call_zipM {l1 l2 : Addr} {xs ys : Array Value} {Q : Value → Shared → Prop} (hl1 : s.heap.IsTuple l1 xs) (hl2 : s.heap.IsList l2 ys)
    (h : ∀ h', IsZip h' (s.heap.objs.size + 4) (s.heap.objs.size + 2) (s.heap.objs.size + 3) .none → IsPair h' (s.heap.objs.size + 2) (.ref s.heap.objs.size) (.ref (s.heap.objs.size + 1)) →
      IsPair h' (s.heap.objs.size + 3) .none .none → h'.IsTupleIter s.heap.objs.size l1 0 → h'.IsListIter (s.heap.objs.size + 1) l2 0 →
      (∀ c o, s.heap.get? c = some o → h'.get? c = some o) → Q (.ref (s.heap.objs.size + 4)) { s with heap := h' }) :
    wpAny (model prog w) A (call (.type "zip") [.ref l1, .ref l2]) Q E s := by
  refine callType_new PySem.F.called_zip (by decide) (PySem.F.typeCall_zip_2 _ _) (PySem.F.newCall_zip_2 _ _) (fun obj => PySem.F.args_object_init_3 obj _ _) PySem.F.entry_zip_new
    (meets_zipM l1 l2 xs ys) ⟨hl1, hl2, ?_⟩
  have z1 : (hpM1 s.heap l1).objs.size = s.heap.objs.size + 1 := Heap.size_push ..
  have z2 : (hpM2 s.heap l1 l2).objs.size = s.heap.objs.size + 2 := by rw [Heap.size_push, z1]
  have z3 : (hpM3 s.heap l1 l2).objs.size = s.heap.objs.size + 3 := by rw [Heap.size_push, z2]
  have z4 : (hpM4 s.heap l1 l2).objs.size = s.heap.objs.size + 4 := by rw [Heap.size_push, z3]
  have g5 : (hpM5 s.heap l1 l2).get? (hpM4 s.heap l1 l2).objs.size = some _ := Heap.get?_push_size _ rfl
  have g4 : (hpM5 s.heap l1 l2).get? (hpM3 s.heap l1 l2).objs.size = some _ := Heap.get?_push_of_some _ (Heap.get?_push_size _ rfl)
  have g3 : (hpM5 s.heap l1 l2).get? (hpM2 s.heap l1 l2).objs.size = some _ := Heap.get?_push_of_some _ (Heap.get?_push_of_some _ (Heap.get?_push_size _ rfl))
  have g2 : (hpM5 s.heap l1 l2).get? (hpM1 s.heap l1).objs.size = some _ := Heap.get?_push_of_some _ (Heap.get?_push_of_some _ (Heap.get?_push_of_some _ (Heap.get?_push_size _ rfl)))
  have g1 : (hpM5 s.heap l1 l2).get? s.heap.objs.size = some _ := Heap.get?_push_of_some _ (Heap.get?_push_of_some _ (Heap.get?_push_of_some _ (Heap.get?_push_of_some _ (Heap.get?_push_size _ rfl))))
  show _ ∧ _
  rw [z2, z3, z4] at g5
  rw [z1, z2] at g3
  rw [z3] at g4
  rw [z1] at g2
  rw [z4]
  exact ⟨⟨_, g5, rfl⟩, h _ g5 g3 g4 ⟨_, g1, rfl, rfl⟩ ⟨_, g2, rfl, rfl⟩ fun c o x =>
    Heap.get?_push_of_some _ (Heap.get?_push_of_some _ (Heap.get?_push_of_some _ (Heap.get?_push_of_some _ (Heap.get?_push_of_some _ x))))⟩
end
/-- the tuple at a and the list at b as they stand at each turn -/
def ItzM (K : PySem.W.Frag) (a b : Addr) : It :=
  ⟨fun i H => ∃ (xs ys : List V) (x y : V), SqT K H a xs ∧ SqL K H b ys ∧ xs[i]? = some x ∧ ys[i]? = some y,
    fun i H v H' => ∃ T x y, v = .ref T ∧ H T = none ∧ H' = upd H T (.tup [x, y]) ∧ (∀ xs, SqT K H a xs → xs[i]? = some x) ∧ ∀ ys, SqL K H b ys → ys[i]? = some y,
    fun i H => ∃ xs ys : List V, SqT K H a xs ∧ SqL K H b ys ∧ (xs.length ≤ i ∨ ys.length ≤ i)⟩
theorem turn_zipM {P : Program} {w : World} {K : PySem.W.Frag} {elts : List Expr} {kk : Nat} {tpos : Pos} {a b z TI TO i1 i2 : Addr} (D : ZipApart z TI TO i1 i2 a b) :
    Turn P w K (.Tuple elts kk tpos) (ItzM K a b) [z, TI, TO, i1, i2] z (fun i h => IsZip h z TI TO .none ∧ IsPair h TI (.ref i1) (.ref i2) ∧ (∃ x y, IsPair h TO x y) ∧ h.IsTupleIter i1 a i ∧ h.IsListIter i2 b i) where
  mem := by simp
  obj := fun i h st c hc => by
    obtain ⟨hz, hTI, ⟨x, y, hTO⟩, ⟨o1, e1, _, d1⟩, ⟨o2, e2, _, d2⟩⟩ := st
    have e' : c = z ∨ c = TI ∨ c = TO ∨ c = i1 ∨ c = i2 := by simpa using hc
    rcases e' with q | q | q | q | q
    · rw [q]; exact ⟨_, hz, fun v q => nomatch q⟩
    · rw [q]; exact ⟨_, hTI, fun v q => nomatch q⟩
    · rw [q]; exact ⟨_, hTO, fun v q => nomatch q⟩
    · rw [q]; exact ⟨o1, e1, fun v q => by rw [d1] at q; cases q⟩
    · rw [q]; exact ⟨o2, e2, fun v q => by rw [d2] at q; cases q⟩
  keep := fun i h h' st k => by
    obtain ⟨hz, hTI, ⟨x, y, hTO⟩, h1, h2⟩ := st
    exact ⟨k z (by simp) _ hz, k TI (by simp) _ hTI, ⟨x, y, k TO (by simp) _ hTO⟩, h1.at fun o q => k i1 (by simp) o q, h2.at fun o q => k i2 (by simp) o q⟩
  item := by
    intro X hP hw hK hc i pins s σ H E I hf st hg
    subst hP hw hK
    obtain ⟨hz, hTI, ⟨x0, y0, hTO⟩, h1, h2⟩ := st
    obtain ⟨xs, ys, x, y, hqx, hqy, hx, hy⟩ := hg
    obtain ⟨its, rv, p, _⟩ := I.tuple hqx
    obtain ⟨its2, rv2, p2, _⟩ := I.list hqy
    obtain ⟨u, hu, ru⟩ := rv.get hx
    obtain ⟨u2, hu2, ru2⟩ := rv2.get hy
    have hzl : z < s.heap.objs.size := Heap.lt_size hz
    refine feed_pyNext_item D (feedT X.prog X.w i1 a its.toArray D.l1i1) (feedL X.prog X.w i2 b its2.toArray D.l2i2) hz hTI hTO ⟨h1, p⟩ ⟨h2, p2.isList⟩ (x := u) (y := u2) (by simpa using hu) (by simpa using hu2) fun h' z' TO' f1 f2 hT hk => ?_
    refine ⟨_, rfl, wpAny_letOwnedTupleGo_zip (s := { s with heap := h' }) z' fun h'' z'' sb => ?_⟩
    have hT2 : h''.get? s.heap.objs.size = some { cls := .type "tuple", data := .seq #[u, u2] } := (sb.2 _ (Nat.ne_of_gt hzl)).trans hT
    have new : ObjOk X.prog X.w (upd H s.heap.objs.size (.tup [x, y])) h'' s.heap.objs.size (.tup [x, y]) :=
      ⟨by show 2 ≤ sizeLine; decide, [u, u2], .cons ru (.cons ru2 .nil), ⟨_, hT2, rfl, _, rfl⟩⟩
    have I1 : Inv X pins σ (upd H s.heap.objs.size (.tup [x, y])) { s with heap := h'' } :=
      I.turnedNew (t' := s.toks) (ch := [z, TI, TO, i1, i2]) (fun c o hb q => (sb.2 c (fun q' => hb (by simp [q']))).trans (hk c o (fun q' => hb (by simp [q'])) (fun q' => hb (by simp [q'])) (fun q' => hb (by simp [q'])) (fun q' => hb (by simp [q'])) q)) hf (Nat.le_refl _) new
    refine ⟨.ref s.heap.objs.size, _, I1, rfl, ⟨_, x, y, rfl, I.hok.fresh (Nat.le_refl _), rfl, fun l hl => by rw [I.tuple_inj hl hqx]; exact hx, fun l hl => by rw [I.list_inj hl hqy]; exact hy⟩, ⟨z'', ?_, ⟨u, u2, ?_⟩, ?_, ?_⟩, fun c hcm => ?_⟩
    · exact (sb.2 _ D.TIz).trans (hk _ _ D.TIz D.TITO D.TIi1 D.TIi2 hTI)
    · exact (sb.2 _ D.TOz).trans TO'
    · exact f1.1.at fun o q => (sb.2 _ D.i1z).trans q
    · exact f2.1.at fun o q => (sb.2 _ D.i2z).trans q
    · have hlt : c < s.heap.objs.size := by
        have e' : c = z ∨ c = TI ∨ c = TO ∨ c = i1 ∨ c = i2 := by simpa using hcm
        rcases e' with q | q | q | q | q
        · rw [q]; exact hzl
        · rw [q]; exact Heap.lt_size hTI
        · rw [q]; exact Heap.lt_size hTO
        · rw [q]; obtain ⟨_, e1, _⟩ := h1; exact Heap.lt_size e1
        · rw [q]; obtain ⟨_, e2, _⟩ := h2; exact Heap.lt_size e2
      rw [upd_ne (Nat.ne_of_lt hlt)]
      exact (hf c hcm).1
  done := by
    intro X hP hw hK hc i pins s σ H E I hf st hg
    subst hP hw hK
    obtain ⟨hz, hTI, ⟨x0, y0, hTO⟩, h1, h2⟩ := st
    obtain ⟨xs, ys, hqx, hqy, hend⟩ := hg
    obtain ⟨its, rv, p, _⟩ := I.tuple hqx
    obtain ⟨its2, rv2, p2, _⟩ := I.list hqy
    have l1 := rv.length
    have l2 := rv2.length
    have he : its.toArray[i]? = none ∨ its2.toArray[i]? = none := by
      rcases hend with q | q
      · exact .inl (by simp; omega)
      · exact .inr (by simp; omega)
    exact feed_pyNext_end (I.ok.hd hc) D (feedT X.prog X.w i1 a its.toArray D.l1i1) (feedL X.prog X.w i2 b its2.toArray D.l2i2) hz hTI hTO ⟨h1, p⟩ ⟨h2, p2.isList⟩ he fun h' hk => ⟨rfl, I.turnedL (t' := s.toks) (ch := [z, TI, TO, i1, i2]) (fun c o hb q =>
      hk c o (fun q' => hb (by simp [q'])) (fun q' => hb (by simp [q'])) (fun q' => hb (by simp [q'])) (fun q' => hb (by simp [q'])) q) hf⟩
  self := fun A i s Q E st h => wpAny_pyIter_zip st.1 h
/-- lists, tuples, or a tuple and a list -/
def iZipB (K : PySem.W.Frag) (ta : TA) : TI := fun σ H R => ta σ H fun vs H1 => ∃ a b xs ys, vs = [.ref a, .ref b] ∧ ((SqL K H1 a xs ∧ SqL K H1 b ys ∧ R (Itz K a b) H1) ∨ (SqT K H1 a xs ∧ SqT K H1 b ys ∧ R (RZ.ItzT K a b) H1) ∨ (SqT K H1 a xs ∧ SqL K H1 b ys ∧ R (ItzM K a b) H1))
theorem pi_zipB {X : Cx} {e e2 : Expr} {ta : TA} {p pos tpos : Pos} {elts : List Expr} {kk : Nat} (hg : Gl X "zip") (hm : X.mg "zip" = none) (ha : PA X [e, e2] ta)
    (hs : starEach [e, e2] X.env = (false, eval e X.env) :: starEach [e2] X.env := by rfl) (hpl : (backTo pos (starEach [e2] X.env)).any (·.1) = false := by rfl) :
    PI X (.Tuple elts kk tpos) (.Call (.Name "zip" p) [e, e2] [] pos) (iZipB X.K ta) := by
  refine ⟨fun pins s σ H R I h => ?_⟩
  refine Call_ (ld_blt I hg hm PyProof.Rows.boot_zip (PyProof.Rows.callWith_type1 (thn (ha.run pos pins s σ H _ I h) fun us s1 ⟨vs, H1, I1, r1, q1⟩ => ?_) hs hpl))
  obtain ⟨a, b, xs, ys, ex, q1⟩ := q1
  subst ex
  cases r1 with
  | cons r rr =>
    cases rr with
    | cons r' rr =>
      cases rr
      cases r
      cases r'
      have fresh5 : ∀ c, c ∈ [s1.heap.objs.size + 4, s1.heap.objs.size + 2, s1.heap.objs.size + 3, s1.heap.objs.size, s1.heap.objs.size + 1] → FpOk X pins H1 c := fun c hcm => by
        have hle : s1.heap.objs.size ≤ c := by
          simp only [List.mem_cons, List.not_mem_nil, or_false] at hcm
          omega
        exact I1.fpOk hle (I1.hok.fresh hle)
      rcases q1 with ⟨hqx, hqy, q⟩ | ⟨hqx, hqy, q⟩ | ⟨hqx, hqy, q⟩
      · obtain ⟨its, rv, p1, _⟩ := I1.list hqx
        obtain ⟨its2, rv2, p2, _⟩ := I1.list hqy
        refine call_zip_2 p1.isList p2.isList fun h' hz hTI hTO h1 h2 hsz hk => wpAny_pyIter_zip hz ?_
        exact ⟨_, _, _, _, H1, rfl, I1.kept (t' := s1.toks) hk, turn_zip (PySem.W.ktu_apart s1.heap.objs.size a b p1.lt p2.lt), ⟨hz, hTI, ⟨_, _, hTO⟩, h1, h2⟩, fresh5, q⟩
      · obtain ⟨its, rv, p1, _⟩ := I1.tuple hqx
        obtain ⟨its2, rv2, p2, _⟩ := I1.tuple hqy
        obtain ⟨o1, ho1, _⟩ := id p1
        obtain ⟨o2, ho2, _⟩ := id p2
        refine RZ.call_zipT (show s1.heap.IsTuple a its.toArray from p1) (show s1.heap.IsTuple b its2.toArray from p2) fun h' hz hTI hTO h1 h2 hsz hk => wpAny_pyIter_zip hz ?_
        exact ⟨_, _, _, _, H1, rfl, I1.kept (t' := s1.toks) hk, RZ.turn_zipT (PySem.W.ktu_apart s1.heap.objs.size a b (Heap.lt_size ho1) (Heap.lt_size ho2)), ⟨hz, hTI, ⟨_, _, hTO⟩, h1, h2⟩, fresh5, q⟩
      · obtain ⟨its, rv, p1, _⟩ := I1.tuple hqx
        obtain ⟨its2, rv2, p2, _⟩ := I1.list hqy
        obtain ⟨o1, ho1, _⟩ := id p1
        refine call_zipM (show s1.heap.IsTuple a its.toArray from p1) p2.isList fun h' hz hTI hTO h1 h2 hk => wpAny_pyIter_zip hz ?_
        exact ⟨_, _, _, _, H1, rfl, I1.kept (t' := s1.toks) hk, turn_zipM (PySem.W.ktu_apart s1.heap.objs.size a b (Heap.lt_size ho1) p2.lt), ⟨hz, hTI, ⟨_, _, hTO⟩, h1, h2⟩, fresh5, q⟩
theorem walk_zipM {K : PySem.W.Frag} {p q : Addr} {xs ys : List V} : Walk (ItzM K p q) (min xs.length ys.length) (fun H => SqT K H p xs ∧ SqL K H q ys) (YPair (fun i => xs[i]?) (fun i => ys[i]?)) :=
  ⟨fun i H hi g => ⟨xs, ys, xs[i]'(by omega), ys[i]'(by omega), g.1, g.2, List.getElem?_eq_getElem _, List.getElem?_eq_getElem _⟩, fun H g => ⟨xs, ys, g.1, g.2, by omega⟩,
    fun i H x H' hi g ⟨T, u, v, k1, k2, k3, k4, k5⟩ => ⟨T, u, v, k1, k2, k3, k4 xs g.1, k5 ys g.2⟩⟩
theorem yld_zipM {B : Bd} {Oc Om : List Addr} {H : Hp} {p q : Addr} {ds es : List D} {vs ws : List V} (h1 : SqT B.K (fz H Oc Om) p vs) (h2 : fz H Oc Om q = some (.lst ws)) (r1 : RepL B (fz H Oc Om) ds vs) (r2 : RepL B (fz H Oc Om) es ws) : Yld B (ItzM B.K p q) Oc Om H (zipT ds es) := by
  have hl : (zipT ds es).length = min vs.length ws.length := by rw [zipT_length, r1.length, r2.length]
  refine ⟨YPair (fun i => vs[i]?) (fun i => ws[i]?), by
    rw [hl]
    exact walk_zipM.mono (fun H' e => ⟨Same.seqT e h1, SqL.of (e _ _ h2)⟩) (fun i H' x H'' _ _ y => y), fun i H' x H'' hi e y => ?_⟩
  obtain ⟨T, x1, y1, rfl, hT, rfl, k1, k2⟩ := y
  refine ⟨same_upd hT, fun Oc' Om' hO sub => ?_⟩
  obtain ⟨d, e1, q1⟩ := rep_at r1 (Same.refl _) k1
  obtain ⟨d2, e2, q2⟩ := rep_at r2 (Same.refl _) k2
  exact ⟨_, zipT_at _ _ _ _ _ e1 e2, pair_new hO hT sub q1 q2⟩
def zipK : D → D → R (List D)
  | .lst xs, .lst ys => .ok (zipT xs ys)
  | .tup xs, .tup ys => .ok (zipT xs ys)
  | .tup xs, .lst ys => .ok (zipT xs ys)
  | _, _ => .stuck
def iZipM (fa fb : DE) : Sd → R (List D) := fun σ => fa σ >>= fun x => fb σ >>= fun y => zipK x y
section
variable {X : Cx} {W : WX} {a b : Expr} {fa fb : DE} {pos : Pos}
theorem id_zipM {elts : List Expr} {kk : Nat} {tpos p : Pos} (hg : Gl X "zip") (hm : X.mg "zip" = none) (ha : ED X W a fa) (hb : ED X W b fb) (hs : starEach [a, b] X.env = (false, eval a X.env) :: starEach [b] X.env := by rfl) (hs2 : starEach [b] X.env = (false, eval b X.env) :: starEach [] X.env := by rfl)
    (hpl : (backTo pos (starEach [b] X.env)).any (·.1) = false := by rfl) : ID X W (.Tuple elts kk tpos) (.Call (.Name "zip" p) [a, b] [] pos) (iZipM fa fb) :=
  pi_imp (pi_zipB hg hm (pa_cons ha (pa_cons hb pa_nil hs2) hs) hs hpl) fun σ H Q ⟨Oc, Om, σd, s, h⟩ => tI_seq s h fun x u H1 e1 r s1 h1 => tI_seq s1 h1 fun y v H2 e2 r2 s2 h2 => by
    have rx := r.mono (same_minus (O := Oc ++ Om) e2)
    cases x <;> cases y <;> first | exact h2.elim | skip
    case lst.lst xs ys =>
      obtain ⟨p, vs, rfl, k1, k2⟩ := (show ∃ a vs, u = .ref a ∧ _ = some (HO.lst vs) ∧ RepL _ _ xs vs by unfold Rep at rx; exact rx)
      obtain ⟨q, ws, rfl, k3, k4⟩ := (show ∃ a vs, v = .ref a ∧ _ = some (HO.lst vs) ∧ RepL _ _ ys vs by unfold Rep at r2; exact r2)
      exact ⟨p, q, vs, ws, rfl, .inl ⟨SqL.of (fz_sub k1), SqL.of (fz_sub k3), h2 _ H2 (Same.refl _) (yld_zip k1 k3 k2 k4)⟩⟩
    case tup.tup xs ys =>
      obtain ⟨p, vs, rfl, k1, k2⟩ := (rep_sq rx)
      obtain ⟨q, ws, rfl, k3, k4⟩ := (rep_sq r2)
      exact ⟨p, q, vs, ws, rfl, .inr (.inl ⟨Same.seqT minus_sub k1, Same.seqT minus_sub k3, h2 _ H2 (Same.refl _) (yld_zipT k1 k3 k2 k4 walk_zipT)⟩)⟩
    case tup.lst xs ys =>
      obtain ⟨p, vs, rfl, k1, k2⟩ := (rep_sq rx)
      obtain ⟨q, ws, rfl, k3, k4⟩ := (show ∃ a vs, v = .ref a ∧ _ = some (HO.lst vs) ∧ RepL _ _ ys vs by unfold Rep at r2; exact r2)
      exact ⟨p, q, vs, ws, rfl, .inr (.inr ⟨Same.seqT minus_sub k1, SqL.of (fz_sub k3), h2 _ H2 (Same.refl _) (yld_zipM k1 k3 k2 k4)⟩)⟩
end
end FF
set_option maxHeartbeats 4000000
/-! sorted(set(x)), x a list of whole numbers -/
namespace FF
open PySem PySem.Spec PyProof.Rows L2
section
variable {P : Program} {w : World} {A : Around} {E : Value → Shared → Prop} {s : Shared}
/-- the object that set.__new__ lays -/
abbrev bareSet (w : World) : Obj := { cls := .type "set", dict := none, data := .set #[] 0 (.fresh 0 0 (!w.params.followText "set-order")) }
theorem set_of_listR {l : Addr} {items : Array Value} (ns : List Int) {Q : Value → Shared → Prop} (hh : A.handled = none) (hl : s.heap.IsList l items) (hit : IntsAre items.toList ns) (hb : ns.length + 1 < scanBound)
    (h : ∀ (h' : Heap) (tk c : Nat), SetR w h' s.heap.objs.size (fun j => decide (j ∈ ns)) c → c ≤ ns.length → (∀ b o, s.heap.get? b = some o → h'.get? b = some o) → Q (.ref s.heap.objs.size) { s with heap := h', toks := tk }) :
    wpAny (model P w) A (call (.type "set") [.ref l]) Q E s := by
  have hsz : items.size = ns.length := by
    have q := IntsAre.length hit
    rwa [Array.length_toList] at q
  obtain ⟨c, tl, hmro⟩ := PySem.F.called_set.mro
  have hmade := PySem.F.called_set.made
  have hsub := PySem.F.called_set.sub
  refine wpAny_call (codeAny_of_tree ?_)
  show wpAny _ _ (callAny (.type "set") _) _ _ _
  refine wpAny_pure ⟨Code.quiet_builtin _ (by decide +kernel), codeAny_builtin PySem.F.entry_type_call ?_⟩
  rw [Around.under_plain (weight_type_call_type "set" [.ref l] []) rfl]
  have k1 := PySem.F.called_set.notType
  have k2 := PySem.F.called_set.canCreate
  have k3 := PySem.F.typeCall_set_1 (.ref l)
  repeat (any_goals (first | assumption | wp_step))
  refine codeAny_mono (code_set_led1 (.ref l) (E := E) (Q₁ := fun obj t => obj = .ref s.heap.objs.size ∧ t = { s with heap := s.heap.push (bareSet w) }) ⟨rfl, rfl⟩) fun r t hr => ?_
  cases r with
  | error e => exact hr
  | ok fl =>
    cases fl with
    | ret obj =>
      obtain ⟨rfl, rfl⟩ := hr
      have gS : (s.heap.push (bareSet w)).get? s.heap.objs.size = some (bareSet w) := Heap.get?_push_size _ rfl
      have tS : Shared.TypeIs { s with heap := s.heap.push (bareSet w) } (.ref s.heap.objs.size) "set" := ⟨_, gS, rfl⟩
      have k4 := PySem.F.called_set.init.lookup
      have k5 := PySem.F.called_set.init.bind (.ref s.heap.objs.size)
      repeat (any_goals (first | assumption | wp_step))
      refine codeAny_mono (codeAny_call_builtin (R := wants (fun r u => r = .none ∧ ∃ h' tk c, u = { s with heap := h', toks := tk } ∧ SetR w h' s.heap.objs.size (fun j => decide (j ∈ ns)) c ∧ c ≤ ns.length ∧
          (∀ b o, s.heap.get? b = some o → h'.get? b = some o)) E) PySem.F.called_set.init.plain PySem.F.entry_set_init (check_set_init_1 tS ?_)) fun r2 u hr2 => ?_
      · obtain ⟨⟨ocls, odict, odata, oslots⟩, hol, hcl, nl, hdl⟩ := hl
        simp only at hcl hdl
        subst hcl; subst hdl
        have hlS : l < s.heap.objs.size := Heap.lt_size hol
        have hol' : (s.heap.push (bareSet w)).get? l = some { cls := .type "list", dict := odict, data := .seq items nl, slots := oslots } := Heap.get?_push_of_some _ hol
        have k6 := PySem.F.sub_list_set
        have k7 := PySem.F.sub_list_frozenset
        have k8 : (Value.type "list" == Value.type "dict") = false := by decide
        have hl1 : (s.heap.push (bareSet w)).IsList l items := ⟨_, hol', rfl, nl, rfl⟩
        unfold Builtin.«set.__init__» noKeywords Builtin.Frozenset.updateFrom
        generalize hPI : pyIter = PI
        wp_walk
        subst hPI
        refine wpAny_pyIter_list hl1 ?_
        refine wpAny_bind (wpAny_runValue ?_)
        have hh3 : A.in1.in1.in1.handled = none := by simp [hh]
        have z1 : (s.heap.push (bareSet w)).objs.size = s.heap.objs.size + 1 := Heap.size_push ..
        have nI : l ≠ (s.heap.push (bareSet w)).objs.size := by rw [z1]; exact Nat.ne_of_lt (Nat.lt_succ_of_lt hlS)
        have nS : s.heap.objs.size ∉ [(s.heap.push (bareSet w)).objs.size, l] := by
          rw [z1]
          simp only [List.mem_cons, List.not_mem_nil, or_false, not_or]
          exact ⟨Nat.ne_of_lt (Nat.lt_succ_self _), Nat.ne_of_gt hlS⟩
        have hval : ∀ (i : Nat) (v : Value), items[i]? = some v → ∃ k t, ns[i]? = some k ∧ v = .int k t := fun i v hv => by
          have hi : i < ns.length := by rw [← hsz]; exact (Array.getElem?_eq_some_iff.mp hv).1
          obtain ⟨t, e⟩ := PyProof.Rows.IntsAre.int_at hit i v (by rw [Array.getElem?_toList]; exact hv)
          refine ⟨ns[i], t, List.getElem?_eq_getElem hi, ?_⟩
          rw [e, List.getD_eq_getElem?_getD, List.getElem?_eq_getElem hi] <;> rfl
        refine set_update_ints ((Walks.list hh3 _ l nI items).toS) s.heap.objs.size nS ns hsz hb hval (items.size - 0) 0 _ (by omega) (Nat.zero_le _)
          ⟨⟨_, Heap.get?_push_size _ rfl, rfl, rfl⟩, hl1.push _⟩ ⟨0, Nat.le_refl 0, setR_new_at (Heap.get?_push_of_some _ gS)⟩ ?_
        intro s' c' hm hc' hS'
        obtain ⟨h', g2, d', tk', os'⟩ := s'
        have eg : g2 = s.gens := hm.gens
        have ed : d' = s.drawn := hm.drawn
        have eo : os' = s.os := hm.os
        subst eg; subst ed; subst eo
        show wpAny _ _ _ _ _ _
        refine wpAny_pure ?_
        show wpAny _ _ (ret Value.none) _ _ _
        rw [hsz] at hc'
        refine wpAny_pure ⟨rfl, h', tk', c', rfl, hS', hc', fun b o e => ?_⟩
        have b0 : b < s.heap.objs.size := Heap.lt_size e
        exact hm.heap b o (by
          rw [z1]
          simp only [List.mem_cons, List.not_mem_nil, or_false, not_or]
          exact ⟨Nat.ne_of_lt b0, Nat.ne_of_lt (Nat.lt_succ_of_lt b0)⟩) (Heap.get?_push_of_some _ (Heap.get?_push_of_some _ e))
      · cases r2 with
        | error e => exact hr2
        | ok fl2 =>
          cases fl2 with
          | ret r =>
            obtain ⟨rfl, h', tk, c', rfl, hS', hc', hk'⟩ := hr2
            repeat (any_goals (first | assumption | wp_step))
            exact h _ _ _ hS' hc' hk'
          | _ => exact hr2.elim
    | _ => exact hr.elim
end
/-! ### the one rising list of what stands in a list -/
def insU (n : Int) : List Int → List Int
  | [] => [n]
  | k :: ks => if n < k then n :: k :: ks else if n = k then k :: ks else k :: insU n ks
def sortU : List Int → List Int
  | [] => []
  | n :: ns => insU n (sortU ns)
theorem insU_mem {n k : Int} : ∀ {ns : List Int}, k ∈ insU n ns ↔ k = n ∨ k ∈ ns
  | [] => by simp [insU]
  | m :: ms => by
    unfold insU
    split
    · simp
    · split
      · rename_i h
        subst h
        simp
      · have ih := insU_mem (n := n) (k := k) (ns := ms)
        simp only [List.mem_cons, ih]
        constructor
        · rintro (h | h | h)
          · exact .inr (.inl h)
          · exact .inl h
          · exact .inr (.inr h)
        · rintro (h | h | h)
          · exact .inr (.inl h)
          · exact .inl h
          · exact .inr (.inr h)
theorem insU_rise {n : Int} : ∀ {ns : List Int}, ns.Pairwise (· < ·) → (insU n ns).Pairwise (· < ·)
  | [], _ => by simp [insU]
  | m :: ms, h => by
    obtain ⟨h1, h2⟩ := List.pairwise_cons.mp h
    unfold insU
    split
    · rename_i c
      refine List.pairwise_cons.mpr ⟨fun k hk => ?_, h⟩
      rcases List.mem_cons.mp hk with z | z
      · rw [z]; exact c
      · have := h1 k z; omega
    · split
      · exact h
      · refine List.pairwise_cons.mpr ⟨fun k hk => ?_, insU_rise h2⟩
        rcases insU_mem.mp hk with z | z
        · rw [z]; omega
        · exact h1 k z
theorem sortU_mem {k : Int} : ∀ {ns : List Int}, k ∈ sortU ns ↔ k ∈ ns
  | [] => by simp [sortU]
  | n :: ns => by
    unfold sortU
    rw [insU_mem, sortU_mem, List.mem_cons]
theorem sortU_rise : ∀ ns : List Int, (sortU ns).Pairwise (· < ·)
  | [] => List.Pairwise.nil
  | n :: ns => insU_rise (sortU_rise ns)
theorem rise_uniq : ∀ {a b : List Int}, a.Pairwise (· < ·) → b.Pairwise (· < ·) → (∀ k, k ∈ a ↔ k ∈ b) → a = b
  | [], [], _, _, _ => rfl
  | [], y :: b, _, _, h => absurd ((h y).mpr (by simp)) (by simp)
  | x :: a, [], _, _, h => absurd ((h x).mp (by simp)) (by simp)
  | x :: a, y :: b, ha, hb, h => by
    obtain ⟨a1, a2⟩ := List.pairwise_cons.mp ha
    obtain ⟨b1, b2⟩ := List.pairwise_cons.mp hb
    have e : x = y := by
      rcases List.mem_cons.mp ((h x).mp (by simp)) with z | z
      · exact z
      · rcases List.mem_cons.mp ((h y).mpr (by simp)) with u | u
        · exact u.symm
        · have := b1 x z
          have := a1 y u
          omega
    subst e
    rw [rise_uniq a2 b2 fun k => ?_]
    have hk := h k
    simp only [List.mem_cons] at hk
    constructor
    · intro z
      rcases hk.mp (.inr z) with u | u
      · have := a1 k z
        omega
      · exact u
    · intro z
      rcases hk.mpr (.inr z) with u | u
      · have := b1 k z
        omega
      · exact u
section
variable {X : Cx} {W : WX} {a : Expr} {fa : DE} {pos : Pos}
def srtK : D → R D
  | .lst ds => (match FF.intsOf ds with
    | some ns => if ns.length ≤ 4000 ∧ (sortU ns).length < 64 then .ok (.lst ((sortU ns).map .int)) else .stuck
    | none => .stuck)
  | _ => .stuck
def eSortSet (f : DE) : DE := fun σ => f σ >>= fun x => srtK x
theorem ed_sortSet {p p2 q : Pos} (hc : X.calm = true) (hg : Gl X "sorted") (hm : X.mg "sorted" = none) (hg2 : Gl X "set") (hm2 : X.mg "set" = none) (ha : ED X W a fa)
    (na : starEach [a] X.env = (false, eval a X.env) :: starEach [] X.env := by rfl) : ED X W (.Call (.Name "sorted" p) [.Call (.Name "set" p2) [a] [] q] [] pos) (eSortSet fa) :=
  ⟨fun pins s σ H Q I ⟨Oc, Om, σd, sr, h⟩ => by
    refine Call_ (ld_blt I hg hm boot_sorted ?_)
    refine PyProof.Rows.callWith_builtin1 (PyProof.Rows.args_cons ?_ rfl) rfl rfl
    refine Call_ (ld_blt I hg2 hm2 boot_set ?_)
    have hq : tD (bdOf X) W fa σ H fun x H1 => ∃ (l : Addr) (ns : List Int), x = .ref l ∧ SqL X.K H1 l (ns.map V.int) ∧ (ns.length ≤ 4000 ∧ (sortU ns).length < 64) ∧ ∀ p, H1 p = none → Q (.ref p) (upd H1 p (.lst ((sortU ns).map V.int))) := tD_seq sr h fun d v H1 e1 r s1 h1 => by
      cases d with
      | lst ds =>
        simp only [srtK] at h1
        split at h1
        · rename_i ns hn
          split at h1
          · rename_i hl
            obtain ⟨l, vs, rfl, k1, k2⟩ := (show ∃ a vs, v = .ref a ∧ _ = some (HO.lst vs) ∧ RepL _ _ ds vs by unfold Rep at r; exact r)
            refine ⟨l, ns, rfl, by rw [← k2.intsOf hn]; exact SqL.of (fz_sub k1), hl, fun p hp => ?_⟩
            exact h1 _ _ (e1.trans (same_upd hp)) (by
              unfold Rep
              exact ⟨p, _, rfl, fz_new s1.1 hp, repl_ints _⟩)
          · exact h1.elim
        · exact h1.elim
      | _ => exact h1.elim
    refine PyProof.Rows.callWith_type1 (PyProof.Rows.args_cons (thn (ha.run pins s σ H _ I hq) fun v s1 ⟨x, H1, I1, r1, q1⟩ => PyProof.Rows.args_nil ?_) na) na rfl
    obtain ⟨l, ns, rfl, hq, hl, q1⟩ := q1
    cases r1
    obtain ⟨its, r, pl, hz⟩ := I1.list hq
    refine set_of_listR ns (I1.ok.hd hc) pl.isList (by simpa using RZ.intsAre_vals r) (by unfold scanBound; omega) fun h' tk c hS hcl hk => PyProof.Rows.args_nil ?_
    have I2 : Inv X pins σ H1 { s1 with heap := h', toks := tk } := I1.kept hk
    have hcs : c = (sortU ns).length := by
      obtain ⟨_, es, _, _, _, _, _, _, nd, mem, _, _, hn, _⟩ := hS
      have nd2 : (sortU ns).Nodup := (sortU_rise ns).imp fun h => Int.ne_of_lt h
      have pm : (es.toList.map keyOf).Perm (sortU ns) := (List.perm_ext_iff_of_nodup nd nd2).mpr fun k => by
        rw [← mem k, sortU_mem]
        exact decide_eq_true_iff
      have := pm.length_eq
      rw [List.length_map, Array.length_toList] at this
      omega
    refine sorted_set hS (I2.ok.hd hc) (by omega) fun s' p out cc ns' k g o hp hgo hi hs hmm hll => ?_
    have e : ns' = sortU ns := rise_uniq hs (sortU_rise ns) fun z => by
      rw [hmm z, sortU_mem]
      exact decide_eq_true_iff
    subst e
    have hlen : ((sortU ns).map V.int).length ≤ sizeLine := by rw [List.length_map, hll, sizeLine_eq]; omega
    have hn : H1 p = none := I2.hok.fresh hp
    have J : Inv X pins σ (upd H1 p (.lst ((sortU ns).map V.int))) { ({ s1 with heap := h', toks := tk } : Shared) with heap := s'.heap, gens := s'.gens, drawn := s'.drawn, toks := s'.toks } :=
      I2.call (ch := []) (Un.laid k hp hn) (I2.hok.laid k hp ⟨hlen, out.toList, cc, vals_of_ints hi, hgo⟩) (by rw [g]; exact I2.bare) (fun _ z => nomatch z)
    have es : s' = { ({ s1 with heap := h', toks := tk } : Shared) with heap := s'.heap, gens := s'.gens, drawn := s'.drawn, toks := s'.toks } := by
      cases s'
      cases s1
      cases o
      rfl
    rw [es]
    exact ⟨.ref p, _, J, rfl, q1 p hn⟩⟩
end
end FF
set_option maxHeartbeats 4000000
/-! sorted(x), x a list of whole numbers -/
namespace FF
open PySem PySem.Spec PyProof.Rows L2
def insN (n : Int) : List Int → List Int
  | [] => [n]
  | k :: ks => if n ≤ k then n :: k :: ks else k :: insN n ks
def sortN : List Int → List Int
  | [] => []
  | n :: ns => insN n (sortN ns)
theorem insN_perm (n : Int) : ∀ ns : List Int, (insN n ns).Perm (n :: ns)
  | [] => List.Perm.refl _
  | k :: ks => by
    unfold insN
    split
    · exact List.Perm.refl _
    · exact ((insN_perm n ks).cons k).trans (List.Perm.swap n k ks)
theorem sortN_perm : ∀ ns : List Int, (sortN ns).Perm ns
  | [] => List.Perm.refl _
  | n :: ns => (insN_perm n (sortN ns)).trans ((sortN_perm ns).cons n)
theorem insN_rise {n : Int} : ∀ {ns : List Int}, ns.Pairwise (· ≤ ·) → (insN n ns).Pairwise (· ≤ ·)
  | [], _ => by simp [insN]
  | k :: ks, h => by
    obtain ⟨h1, h2⟩ := List.pairwise_cons.mp h
    unfold insN
    split
    · rename_i c
      refine List.pairwise_cons.mpr ⟨fun j hj => ?_, h⟩
      rcases List.mem_cons.mp hj with z | z
      · rw [z]; exact c
      · exact Int.le_trans c (h1 j z)
    · refine List.pairwise_cons.mpr ⟨fun j hj => ?_, insN_rise h2⟩
      rcases List.mem_cons.mp ((insN_perm n ks).mem_iff.mp hj) with z | z
      · rw [z]; omega
      · exact h1 j z
theorem sortN_rise : ∀ ns : List Int, (sortN ns).Pairwise (· ≤ ·)
  | [] => List.Pairwise.nil
  | _ :: ns => insN_rise (sortN_rise ns)
theorem sorted_uniq : ∀ {a b : List Int}, a.Pairwise (· ≤ ·) → b.Pairwise (· ≤ ·) → a.Perm b → a = b
  | [], b, _, _, p => (List.nil_perm.mp p).symm
  | x :: a, [], _, _, p => absurd p.length_eq (by simp)
  | x :: a, y :: b, ha, hb, p => by
    obtain ⟨a1, a2⟩ := List.pairwise_cons.mp ha
    obtain ⟨b1, b2⟩ := List.pairwise_cons.mp hb
    have e : x = y := by
      have hx : x ∈ y :: b := p.mem_iff.mp (by simp)
      have hy : y ∈ x :: a := p.mem_iff.mpr (by simp)
      rcases List.mem_cons.mp hx with z | z
      · exact z
      · rcases List.mem_cons.mp hy with u | u
        · exact u.symm
        · have := b1 x z
          have := a1 y u
          omega
    subst e
    rw [sorted_uniq a2 b2 (List.Perm.cons_inv p)]
section
variable {X : Cx} {W : WX} {a : Expr} {fs : Sd → R (List D)} {pos p : Pos}
def sortL : List D → R D
  | [.lst ds] => match FF.intsOf ds with
    | some ns => if ns.length < 64 then .ok (.lst ((sortN ns).map .int)) else .stuck
    | none => .stuck
  | _ => .stuck
theorem sem_sorted : SemL (bdOf X) (rSorted X.K) sortL := by
  intro Oc Om H xs us Q hO rs h
  rcases xs with _ | ⟨x1, _ | ⟨x2, rr⟩⟩
  · exact h.elim
  · cases x1 with
    | lst ds =>
      obtain ⟨u, rfl, r⟩ := repl1 rs
      obtain ⟨a, vs, rfl, h1, h2⟩ := (show ∃ a vs, u = .ref a ∧ _ = some (HO.lst vs) ∧ RepL _ _ ds vs by unfold Rep at r; exact r)
      cases q : FF.intsOf ds with
      | none =>
        have h3 : ((match FF.intsOf ds with
          | some ns => if ns.length < 64 then R.ok (D.lst ((sortN ns).map .int)) else .stuck
          | none => R.stuck) : R D).post _ _ := h
        rw [q] at h3
        exact h3.elim
      | some ns =>
        have h3 : ((match FF.intsOf ds with
          | some ns => if ns.length < 64 then R.ok (D.lst ((sortN ns).map .int)) else .stuck
          | none => R.stuck) : R D).post (fun d => ∀ w H', Same H H' → Rep (bdOf X) (fz H' Oc Om) d w → Q w H') (fun _ => False) := h
        rw [q] at h3
        have h4 : (if ns.length < 64 then R.ok (D.lst ((sortN ns).map .int)) else .stuck : R D).post (fun d => ∀ w H', Same H H' → Rep (bdOf X) (fz H' Oc Om) d w → Q w H') (fun _ => False) := h3
        by_cases hl : ns.length < 64
        · rw [if_pos hl] at h4
          have e := RepL.intsOf h2 q
          subst e
          refine ⟨a, ns, rfl, SqL.of (fz_sub h1), hl, fun ns' p hp hs hn => ?_⟩
          have e2 : ns' = sortN ns := sorted_uniq hs (sortN_rise ns) (hp.trans (sortN_perm ns).symm)
          subst e2
          exact h4 _ _ (same_upd hn) (by
            unfold Rep
            exact ⟨p, _, rfl, fz_new hO hn, repl_ints _⟩)
        · rw [if_neg hl] at h4
          exact h4.elim
    | _ => exact h.elim
  · cases x1 <;> exact h.elim
theorem eb_sorted (hm : X.mg "sorted" = none) (hg : Gl X "sorted") (ha : AD X W [a] fs) (he : starEach [a] X.env = (false, eval a X.env) :: starEach [] X.env := by rfl) : ED X W (.Call (.Name "sorted" p) [a] [] pos) (eOL sortL fs) := ed_callB cr_sorted sem_sorted hg hm boot_sorted ha (he := he) (hpl := by first | rfl | (simp [he]; done))
end
end FF
set_option maxHeartbeats 4000000
/-! dicts that a name owns -/
namespace FF
open PySem PySem.Spec PyProof.Rows L2
section
variable {B : Bd} {Oc Om : List Addr} {σd : Sd} {σ : L2.St} {H : Hp}
theorem SR.ownD {i : Nat} {ks : List DKey} {ds : List D} (s : SR B Oc Om σd σ H) (hi : σd[i]? = some (some (.od ks ds))) : ∃ p vs, σ[i]? = some (some (.ref p)) ∧ DicK H p ks vs ∧ Mut (H p) ∧ p ∈ Om ∧ RepL B (fz H Oc Om) ds vs ∧
    ∀ ks' ds' vs' o, DicK (upd H p o) p ks' vs' → Mut (some o) → RepL B (fz H Oc Om) ds' vs' → SR B Oc Om (σd.set i (some (.od ks' ds'))) σ (upd H p o) := by
  obtain ⟨h1, fp, h2, h3, h4⟩ := s
  obtain ⟨f1, f, f2, v, e1, e2, ⟨x, rfl, e3⟩, e4⟩ := h2.focus hi
  subst e1
  unfold OR at e3
  obtain ⟨p, vs, rfl, k1, km, rfl, k2⟩ := e3
  have pm : p ∈ Om := (h4 p (by simp)).1
  refine ⟨p, vs, e2, k1, km, pm, k2, fun ks' ds' vs' o dk mu r => ?_⟩
  have em : fz (upd H p o) Oc Om = fz H Oc Om := by
    funext b
    unfold fz minus
    by_cases hb : b = p
    · subst hb; simp [pm]
    · simp [upd_ne hb]
  have nd := h3
  rw [List.nodup_append] at nd
  obtain ⟨n1, n2, n3⟩ := nd
  have n4 : p ∉ f2 := by simp at n2; exact n2.1
  have n5 : p ∉ f1 := fun z => n3 p z p (by simp) rfl
  have q := e4 (fz (upd H p o) Oc Om) (upd H p o) (some (.od ks' ds')) (some (.ref p)) [p] (by rw [em]; exact Same.refl _) (fun a ha u z => by
    rw [upd_ne (fun e => by
      subst e
      rcases List.mem_append.mp ha with w | w
      · exact n5 w
      · exact n4 w)]
    exact z) ⟨.ref p, rfl, by
      unfold OR
      exact ⟨p, vs', rfl, dk, by rw [upd_same]; exact mu, rfl, by rw [em]; exact r⟩⟩
  rw [set_self_opt e2] at q
  refine ⟨fun a ha => ?_, _, q, h3, h4⟩
  by_cases hb : a = p
  · subst hb; rw [upd_same]; exact fun z => nomatch z
  · rw [upd_ne hb]; exact h1 a ha
end
/-- a number or a text as a key -/
def keyK : D → Option Key
  | .int n => some (.inl n)
  | .str x => some (.inr x)
  | _ => none
def getD : List DKey → List D → Key → Option D
  | .inl k :: ks, d :: ds, κ => if k = κ then some d else getD ks ds κ
  | _, _, _ => none
theorem keyK_rep {B : Bd} {G : Hp} {k : D} {u : V} {κ : Key} (h : keyK k = some κ) (r : Rep B G k u) : u = kV κ := by
  cases k <;> first | (simp [keyK] at h; done) | skip
  · simp only [keyK, Option.some.injEq] at h
    subst h
    exact r
  · simp only [keyK, Option.some.injEq] at h
    subst h
    exact r
theorem getD_val {B : Bd} {G : Hp} {κ : Key} {d : D} : ∀ {kk : List Key} {ds : List D} {vs : List V}, RepL B G ds vs → getD (kk.map Sum.inl) ds κ = some d → ∃ v, valV (kk.zip vs) κ = some v ∧ Rep B G d v
  | [], ds, vs, _, e => by cases ds <;> simp [getD] at e
  | k :: kk, [], vs, _, e => by simp [getD] at e
  | k :: kk, d0 :: ds, _, r, e => by
    obtain ⟨v, w, rfl, h1, h2⟩ := r
    simp only [List.map_cons, getD] at e
    by_cases c : k = κ
    · rw [if_pos c] at e
      cases e
      exact ⟨v, valV_pos (p := (k, v)) c, h1⟩
    · rw [if_neg c] at e
      obtain ⟨v', e1, e2⟩ := getD_val (kk := kk) h2 e
      exact ⟨v', by rw [List.zip_cons_cons, valV_neg (p := (k, v)) c]; exact e1, e2⟩
theorem getD_kind {κ : Key} {d : D} : ∀ {ks : List DKey} {ds : List D}, getD ks ds κ = some d → ∃ k r, ks = .inl k :: r
  | .inl k :: ks, d :: ds, _ => ⟨k, ks, rfl⟩
  | [], _, e => by simp [getD] at e
  | .inr k :: ks, ds, e => by simp [getD] at e
  | .inl k :: ks, [], e => by simp [getD] at e
section
variable {X : Cx} {W : WX} {a b : Expr} {fb : DE} {pos : Pos}
def dgK (ks : List DKey) (ds : List D) (k : D) : R D := match keyK k with
  | some κ => ofO (getD ks ds κ)
  | none => .stuck
/-- x[e], x an owned dict -/
def eDGet (i : Nat) (f : DE) : DE := fun σ => match σ[i]? with
  | some (some (.od ks ds)) => f σ >>= fun k => dgK ks ds k
  | _ => .stuck
theorem ed_dget {i : Nat} (hu : Rm X) (ho : PE X a (tVar i)) (hb : ED X W b fb) (hs : NoSl b) : ED X W (.Subscript a b pos) (eDGet i fb) := pe_imp (pe_dget (by have : X.A.units + 200 < cLine := hu; omega) ho hb hs) fun σ H Q ⟨Oc, Om, σd, s, h⟩ => by
  unfold eDGet at h
  split at h
  · rename_i ks ds hx
    obtain ⟨p, vs, k1, _, _, _, _, _⟩ := s.ownD hx
    refine ⟨.ref p, k1, tD_seq s h fun k u H1 e1 r s1 h1 => ?_⟩
    obtain ⟨p', vs', k1', dk, _, _, rl, _⟩ := s1.ownD hx
    rw [k1] at k1'
    cases k1'
    replace h1 : (dgK ks ds k).post _ _ := h1
    unfold dgK at h1
    cases hk : keyK k with
    | none => rw [hk] at h1; exact h1.elim
    | some κ =>
      rw [hk] at h1
      cases hg : getD ks ds κ with
      | none =>
        simp only [hg] at h1
        exact h1.elim
      | some d =>
        simp only [hg] at h1
        obtain ⟨k0, r0, e0⟩ := getD_kind hg
        obtain ⟨kk, q1, q2, q3⟩ := dk
        rw [q1] at hg
        obtain ⟨v, v1, v2⟩ := getD_val rl hg
        exact ⟨p, v, rfl, .inl ⟨_, κ, q3, keyK_rep hk r, v1.symm⟩, h1 _ H1 e1 v2⟩
  · exact h.elim
end
/-- x[k] = d: in its place, or at the end -/
def hasK (κ : Key) : List DKey → Bool
  | [] => false
  | .inl k :: ks => decide (k = κ) || hasK κ ks
  | .inr _ :: ks => hasK κ ks
def repK {α : Type} (κ : Key) (d : α) : List DKey → List α → List α
  | .inl k :: ks, x :: xs => (if k = κ then d else x) :: repK κ d ks xs
  | _, xs => xs
theorem hasK_any (κ : Key) : ∀ (kk : List Key) (vs : List V), kk.length = vs.length → ((kk.zip vs).any fun kv => decide (kv.1 = κ)) = hasK κ (kk.map Sum.inl)
  | [], _, _ => rfl
  | k :: kk, [], h => by simp at h
  | k :: kk, v :: vs, h => by
    rw [List.zip_cons_cons, List.any_cons, hasK_any κ kk vs (by simpa using h)]
    rfl
theorem repK_zip (κ : Key) (v : V) : ∀ (kk : List Key) (vs : List V), kk.length = vs.length → ((kk.zip vs).map fun kv => if kv.1 = κ then (kv.1, v) else kv) = kk.zip (repK κ v (kk.map Sum.inl) vs)
  | [], _, _ => rfl
  | k :: kk, [], h => by simp at h
  | k :: kk, x :: vs, h => by
    rw [List.zip_cons_cons, List.map_cons, repK_zip κ v kk vs (by simpa using h)]
    by_cases c : k = κ
    · simp [repK, c]
    · simp [repK, c]
theorem repK_len {α : Type} (κ : Key) (d : α) : ∀ (ks : List DKey) (xs : List α), (repK κ d ks xs).length = xs.length
  | .inl k :: ks, x :: xs => by simp [repK, repK_len κ d ks xs]
  | [], xs => by cases xs <;> rfl
  | .inr k :: ks, xs => by cases xs <;> rfl
  | .inl k :: ks, [] => rfl
theorem repK_rep {B : Bd} {G : Hp} {κ : Key} {d : D} {v : V} (r : Rep B G d v) : ∀ (kk : List Key) {ds : List D} {vs : List V}, RepL B G ds vs → RepL B G (repK κ d (kk.map Sum.inl) ds) (repK κ v (kk.map Sum.inl) vs)
  | [], ds, vs, h => by cases ds <;> cases vs <;> exact h
  | k :: kk, [], vs, h => by
    rw [show vs = [] from h]
    rfl
  | k :: kk, d0 :: ds, _, h => by
    obtain ⟨x, w, rfl, h1, h2⟩ := h
    refine ⟨_, _, rfl, ?_, repK_rep r kk h2⟩
    by_cases c : k = κ
    · simp only [if_pos c]; exact r
    · simp only [if_neg c]; exact h1
def inlD : List DKey → Bool
  | [] => true
  | .inl _ :: _ => true
  | _ => false
section
variable {X : Cx} {W : WX} {o e vx : Expr} {f fv : DE} {pos pos' : Pos}
/-- x[e] = v, x an owned dict that has a key already -/
def sDPutD (i : Nat) (fk fv : DE) : DS := fun σ => (fv σ).toOut σ fun d => match σ[i]? with
  | some (some (.od ks ds)) => (fk σ).toOut σ fun k => (match keyK k with
    | some κ => if inlD ks = true ∧ ks.length < sizeLine then .next (σ.set i (some (.od (if hasK κ ks = true then ks else ks ++ [.inl κ]) (if hasK κ ks = true then repK κ d ks ds else ds ++ [d])))) else .stuck
    | none => .stuck)
  | _ => .stuck
theorem sd_dput {i : Nat} (hu : Rm X) (ho : PE X o (tVar i)) (he : ED X W e f) (hv : ED X W vx fv) (hs : swapsWith vx (some (.Subscript o e pos')) pos.line X.env = pure false := by rfl) : SD X W (.Assign [.Subscript o e pos'] vx pos) (sDPutD i f fv) :=
  ps_imp (ps_dput (by have : X.A.units + 200 < cLine := hu; omega) ho he hv hs) fun Dn σ H ⟨Oc, Om, σd, s, h⟩ => by
    refine toOut_seq s h fun d v H1 e1 r s1 h1 => ?_
    split at h1
    · rename_i ks ds hx
      obtain ⟨p, vs, k1, _, _, _, _, _⟩ := s1.ownD hx
      refine ⟨.ref p, k1, ?_⟩
      refine toOut_seq s1 h1 fun k u H2 e2 r2 s2 h2 => ?_
      obtain ⟨p', vs', k1', dk, mu, pm, rl, wr⟩ := s2.ownD hx
      rw [k1] at k1'
      cases k1'
      cases hk : keyK k with
      | none => rw [hk] at h2; exact h2.elim
      | some κ =>
        rw [hk] at h2
        replace h2 : (if inlD ks = true ∧ ks.length < sizeLine then Out.next (σd.set i (some (.od (if hasK κ ks = true then ks else ks ++ [.inl κ]) (if hasK κ ks = true then repK κ d ks ds else ds ++ [d])))) else .stuck).all (bdOf X) W Oc Om H2 Dn := h2
        by_cases hc : inlD ks = true ∧ ks.length < sizeLine
        case neg => rw [if_neg hc] at h2; exact h2.elim
        rw [if_pos hc] at h2
        obtain ⟨kk, q1, q2, q3⟩ := dk
        · subst q1
          have hp : H2 p = some (.dK (kk.zip vs')) := by
            rcases q3 with z | ⟨o', z⟩
            · exact z
            · rw [z] at mu; exact mu.elim
          have hlen : (kk.zip vs').length < sizeLine := by
            have := hc.2
            rw [List.length_map] at this
            rw [List.length_zip, q2, Nat.min_self, ← q2]
            exact this
          have rv : Rep (bdOf X) (fz H2 Oc Om) d v := r.mono (same_minus e2)
          refine ⟨p, upd H2 p (.dK (putK (kk.zip vs') κ v)), rfl, .inl ⟨kk.zip vs', κ, hp, keyK_rep hk r2, hlen, rfl⟩, ?_⟩
          by_cases hh : hasK κ (kk.map Sum.inl) = true
          · rw [if_pos hh, if_pos hh] at h2
            have e3 : putK (kk.zip vs') κ v = kk.zip (repK κ v (kk.map Sum.inl) vs') := by
              unfold putK
              rw [hasK_any κ kk vs' q2, if_pos hh, repK_zip κ v kk vs' q2]
            rw [e3]
            exact h2 σ Om _ (wr _ _ (repK κ v (kk.map Sum.inl) vs') _ (⟨kk, rfl, by rw [repK_len]; exact q2, .inl upd_same⟩) trivial (repK_rep rv kk rl)) (ext_w pm)
          · rw [if_neg hh, if_neg hh] at h2
            have e3 : putK (kk.zip vs') κ v = (kk ++ [κ]).zip (vs' ++ [v]) := by
              unfold putK
              rw [hasK_any κ kk vs' q2, if_neg hh, List.zip_append q2]
              rfl
            rw [e3]
            exact h2 σ Om _ (wr _ _ (vs' ++ [v]) _ (⟨kk ++ [κ], by simp, by simp [q2], .inl upd_same⟩) trivial (rl.append (.cons rv .nil))) (ext_w pm)
    · exact h1.elim
end
end FF
set_option maxHeartbeats 4000000
/-! a dict that is written out to a name -/
namespace FF
open PySem PySem.Spec PyProof.Rows L2
section
variable {B : Bd} {Oc Om : List Addr} {σd : Sd} {σ : L2.St} {H : Hp}
/-- a protected dict goes to a name -/
theorem SR.setD {i : Nat} {p : Addr} {ks : List DKey} {ds : List D} {vs : List V} (s : SR B (p :: Oc) Om σd σ H) (hi : i < σd.length) (hD : DicK H p ks vs) (hm : Mut (H p)) (hc : p ∉ Oc) (ho : p ∉ Om) (r : RepL B (fz H (p :: Oc) Om) ds vs) :
    SR B Oc (p :: Om) (σd.set i (some (.od ks ds))) (σ.set i (some (.ref p))) H := by
  obtain ⟨h1, fp, h2, h3, h4⟩ := s
  have em : minus H ((p :: Oc) ++ Om) = minus H (Oc ++ (p :: Om)) := minus_mem fun a => by
    simp only [List.mem_append, List.mem_cons]
    constructor
    · rintro ((z | z) | z)
      · exact .inr (.inl z)
      · exact .inl z
      · exact .inr (.inr z)
    · rintro (z | z | z)
      · exact .inl (.inr z)
      · exact .inl (.inl z)
      · exact .inr z
  have r' : RepL B (minus H (Oc ++ (p :: Om))) ds vs := em ▸ r
  rw [em] at h2
  obtain ⟨f1, f, f2, w, e1, _, _, e4⟩ := h2.focus (i := i) (d := σd[i]) (by simp [hi])
  subst e1
  have hpf : p ∉ f1 ++ (f ++ f2) := fun z => ho (h4 p z).1
  refine ⟨fun a ha => ?_, f1 ++ ([p] ++ f2), e4 _ H (some (.od ks ds)) (some (.ref p)) [p] (Same.refl _) (fun _ _ _ q => q) ⟨_, rfl, ?_⟩, ?_, fun a ha => ?_⟩
  · rcases List.mem_append.mp ha with z | z
    · exact h1 a (by simp [z])
    · rcases List.mem_cons.mp z with z | z
      · rw [z]
        intro q
        rw [q] at hm
        exact hm
      · exact h1 a (by simp [z])
  · unfold OR
    exact ⟨p, vs, rfl, hD, hm, rfl, r'⟩
  · have nd : (f1 ++ f2).Nodup := List.Nodup.sublist (List.Sublist.append (List.Sublist.refl _) (by simp)) h3
    have q1 : p ∉ f1 := fun z => hpf (by simp [z])
    have q2 : p ∉ f2 := fun z => hpf (by simp [z])
    rw [List.nodup_append] at nd ⊢
    obtain ⟨n1, n2, n3⟩ := nd
    refine ⟨n1, by simp [q2, n2], fun a ha b hb => ?_⟩
    rcases List.mem_append.mp hb with z | z
    · have z' : b = p := by simpa using z
      rw [z']
      exact fun e => q1 (e ▸ ha)
    · exact n3 a ha b z
  · rcases List.mem_append.mp ha with z | z
    · have := h4 a (by simp [z])
      exact ⟨by simp [this.1], fun q => this.2 (by simp [q])⟩
    · rcases List.mem_append.mp z with z | z
      · have z' : a = p := by simpa using z
        rw [z']
        exact ⟨by simp, hc⟩
      · have := h4 a (by simp [z])
        exact ⟨by simp [this.1], fun q => this.2 (by simp [q])⟩
end
end FF
set_option maxHeartbeats 4000000
/-! the pairs of a dict that is written out, its keys texts -/
namespace FF
open PySem PySem.Spec PyProof.Rows L2
section
variable {X : Cx} {W : WX}
structure PDx (X : Cx) (W : WX) (pos : Pos) (keys : List (Option Expr)) (values : List Expr) (ks : List Key) (fs : Sd → R (List D)) : Prop where
  ex : ∃ trs, PPs X pos keys values trs ∧ ∀ {Oc Om : List Addr} {σd : Sd} {σ : L2.St} {H : Hp} {Q : List (V × V) → Hp → Prop}, SR (bdOf X) Oc Om σd σ H →
    (fs σd).post (fun ds => ∀ vs H', Same H H' → RepL (bdOf X) (fz H' Oc Om) ds vs → vs.length = ks.length → Q ((ks.map kV).zip vs) H') (exE (bdOf X) W σ H) → tPairs trs σ H Q
theorem pd_nil {pos : Pos} : PDx X W pos [] [] [] aNil := ⟨[], pps_nil, fun s h => h [] _ (Same.refl _) rfl rfl⟩
theorem pd_cons {pos p : Pos} {k : Nat} {x : Str} {v : Expr} {keys : List (Option Expr)} {values : List Expr} {ks : List Key} {fa : DE} {fs : Sd → R (List D)} (ha : ED X W v fa) (h : PDx X W pos keys values ks fs) :
    PDx X W pos (some (.Constant (.str x) k p) :: keys) (v :: values) (.inr x :: ks) (aCons fa fs) := by
  obtain ⟨trs, h1, h2⟩ := h.ex
  refine ⟨_, pps_cons pe_str ha h1, fun {Oc Om σd σ H Q} s hp => ?_⟩
  refine tD_seq s hp fun d u H1 e1 r s1 q1 => ?_
  refine h2 s1 (R.post_imp (R.post_bind q1) (fun ds _ q vs H2 e2 rs hl => ?_) fun _ _ z => z)
  exact q (u :: vs) H2 (e1.trans e2) ⟨u, vs, rfl, r.mono (same_minus e2), rs⟩ (by simp [hl])
theorem merge_new : ∀ (more acc : List (Key × V)), ((acc ++ more).map (·.1)).Nodup → mergeK acc more = acc ++ more
  | [], acc, _ => by simp [mergeK]
  | kv :: more, acc, h => by
    have hn : valV acc kv.1 = none := by
      cases q : valV acc kv.1 with
      | none => rfl
      | some v =>
        have := valV_in q
        simp only [List.map_append, List.map_cons] at h
        rw [List.nodup_append] at h
        exact absurd rfl (h.2.2 _ this kv.1 (by simp))
    show mergeK (putK acc kv.1 kv.2) more = _
    rw [putK_new kv.2 hn, merge_new more (acc ++ [(kv.1, kv.2)]) (by simpa using h)]
    simp
/-- x = {k: v, ..}, the keys written texts, each once -/
def sSetOD (i : Nat) (ks : List Key) (fs : Sd → R (List D)) : DS := fun σ => (fs σ).toOut σ fun ds => if i < σ.length ∧ ds.length = ks.length then .next (σ.set i (some (.od (ks.map Sum.inl) ds))) else .stuck
theorem sd_setD {i : Nat} {x : Str} {pos pos' dpos : Pos} {keys : List (Option Expr)} {values : List Expr} {ks : List Key} {fs : Sd → R (List D)} (hN : X.N.Nodup) (hi : X.N[i]? = some x) (hx : Loc X.env.scope x) (h : PDx X W dpos keys values ks fs)
    (hall : keys.all (·.isSome) = true := by rfl) (hl : keys.length = values.length := by rfl) (h0 : keys ≠ [] := by exact fun z => nomatch z) (h15 : keys.length ≤ 15 := by decide) (hk15 : ks.length ≤ 15 := by decide) (hn : ks.Nodup := by decide)
    (hs : swapsWith (.Dict keys values dpos) (some (.Name x pos')) pos.line X.env = pure false := by rfl)
    (hf : X.fn x = true ∨ X.env.scope.names.lookup x = some .local := by first | exact .inl rfl | exact .inr rfl | assumption) : SD X W (.Assign [.Name x pos'] (.Dict keys values dpos) pos) (sSetOD i ks fs) := by
  obtain ⟨trs, h1, h2⟩ := h.ex
  refine ps_imp (ps_set hN hi hx (pe_disp h1 hall hl h0 h15) hs hf) fun Dn σ H ⟨Oc, Om, σd, s, g⟩ => ?_
  intro p hp
  have e0 : Same H (upd H p (.dK [])) := same_upd hp
  have sp : SR (bdOf X) (p :: Oc) Om σd σ (upd H p (.dK [])) := s.protect e0 hp (by rw [upd_same]; exact fun z => nomatch z)
  have nd := s.ndO hp
  have hc : p ∉ Oc := fun z => nd (by simp [z])
  have ho : p ∉ Om := fun z => nd (by simp [z])
  refine h2 sp ?_
  cases q : fs σd with
  | stuck => unfold sSetOD at g; rw [q] at g; exact g.elim
  | exc c =>
    unfold sSetOD at g
    rw [q] at g
    exact fun C H' hc e => g C σ Om H' hc (s.same (e0.trans e)) (.of_same (e0.trans e))
  | ok ds =>
    unfold sSetOD at g
    rw [q] at g
    replace g : (if i < σd.length ∧ ds.length = ks.length then Out.next (σd.set i (some (.od (ks.map Sum.inl) ds))) else .stuck).all (bdOf X) W Oc Om H Dn := g
    by_cases hh : i < σd.length ∧ ds.length = ks.length
    case neg => rw [if_neg hh] at g; exact g.elim
    rw [if_pos hh] at g
    intro vs H2 e2 r hlen
    have hm : mergeK [] (ks.zip vs) = ks.zip vs := by
      rw [merge_new (ks.zip vs) [] (by rw [List.nil_append, List.map_fst_zip (by omega)]; exact hn), List.nil_append]
    refine ⟨e2 _ _ upd_same, ks.zip vs, ?_, ?_, ?_⟩
    · rw [List.zip_map_left]
      rfl
    · rw [List.length_zip]
      omega
    · rw [hm]
      have em : fz (upd H2 p (.dK (ks.zip vs))) (p :: Oc) Om = fz H2 (p :: Oc) Om := by
        funext b
        unfold fz minus
        by_cases hb : b = p
        · subst hb; simp
        · simp [upd_ne hb]
      have s3 := (sp.same e2).writeC (D := p) (o := .dK (ks.zip vs)) (by simp) ho
      exact g _ (p :: Om) _ (s3.setD hh.1 (⟨ks, rfl, hlen.symm, .inl upd_same⟩) (by rw [upd_same]; trivial) hc ho (em ▸ r))
        ⟨fun b o hb hbo => by
          rw [upd_ne (fun (z : b = p) => by rw [z, hp] at hbo; cases hbo)]
          exact e2 _ _ (e0 _ _ hbo), fun a ha => by
          rcases List.mem_cons.mp ha with z | z
          · exact .inr (by rw [z]; exact hp)
          · exact .inl z⟩
end
end FF
set_option maxHeartbeats 4000000
/-! an exception out of a comprehension's element -/
namespace FF
open PySem PySem.Spec PyProof.Rows L2
/-- an exception in the air of X, flying or held at the frame L -/
def XEL (X : Cx) (L : Addr) (W : WX) (u : Value) (s' : Shared) : Prop :=
  ∃ (a : Addr) (B : Heap) (sI : Shared) (pins : List (Addr × Obj)) (σ : L2.St) (H : Hp) (cls : Value) (d : Option Addr),
    u = .ref a ∧ Inv X pins σ H sI ∧ (∀ b o, sI.heap.get? b = some o → b ∉ frs X.stack → B.get? b = some o) ∧ sI.heap.UpToSlots s'.heap ∧
      (HandSPX.FlyingZ B X.stack a (Zc cls d) s'.heap ∨ HandSPX.HeldZ B X.stack a (Zc cls d) L s'.heap) ∧ H a = none ∧ s'.os = sI.os ∧ AllBare s'.gens ∧ W cls d σ H
def TakesL (X : Cx) (L : Addr) (W : WX) : Prop := ∀ u s', XEL X L W u s' → X.xe u s'
structure FrmAt (X : Cx) (L : Addr) : Prop where
  ex : ∃ env0 outer0, X.stack = env0 :: outer0 ∧ env0.frame = some L ∧ X.env.frame = some L
theorem TakesL.of {X : Cx} {W : WX} (tk : Takes X W) (h : L = X.env.locals) : TakesL X L W := fun u s' ⟨a, B, sI, pins, σ, H, cls, d, e, I, nb, up, fl, na, os, ag, w⟩ =>
  tk u s' ⟨a, B, sI, pins, σ, H, cls, d, e, I, nb, up, .inr (fl.imp id fun z => h ▸ z), na, os, ag, w⟩
theorem XEL.of_call {X : Cx} {pins : List (Addr × Obj)} {σ : L2.St} {H : Hp} {s s' : Shared} {W : WX} {E : XK} {L : Addr} (I : Inv X pins σ H s) (hW : ∀ cls d H', E cls d H' → W cls d σ H') {u : Value} (c : CX X.prog X.w X.stack H s E u s') : XEL X L W u s' := by
  have fl' : ∃ a B cls d, u = .ref a ∧ HandSPX.FlyingZ B X.stack a (Zc cls d) s'.heap := by
    obtain ⟨a, B, H', cls, d, e, fl, _⟩ := c
    exact ⟨a, B, cls, d, e, fl⟩
  obtain ⟨a, B, H', cls, d, rfl, fl, hok, ub, na, os, ag, hE⟩ := c
  obtain ⟨G, g1, g2⟩ := restrict s'.heap fun b => (B.get? b).isSome || decide (b ∈ frs X.stack)
  have st : B.StaysIn s'.heap := fl.1
  have gB : ∀ b o, B.get? b = some o → G.get? b = some o := fun b o e => by
    rw [g1 b (by simp [e])]
    exact st b o e
  have gF : ∀ b, b ∈ frs X.stack → G.get? b = s'.heap.get? b := fun b hb => g1 b (by simp [hb])
  have og : ∀ b o, G.get? b = some o → s'.heap.get? b = some o ∧ ((B.get? b).isSome = true ∨ b ∈ frs X.stack) := fun b o e => by
    cases q : ((B.get? b).isSome || decide (b ∈ frs X.stack)) with
    | false => rw [g2 b q] at e; cases e
    | true =>
      rw [g1 b q] at e
      exact ⟨e, by simpa [Bool.or_eq_true] using q⟩
  refine ⟨a, B, { s with heap := G, gens := s'.gens, drawn := s'.drawn, toks := s'.toks }, pins, σ, H', cls, d, rfl, ?_, fun b o e hb => ?_, Heap.UpToSlots.of_keeps fun b o e => (og b o e).1, .inl fl, na, os, ag, hW _ _ _ hE⟩
  · refine I.call (ch := []) ⟨fun b o e n hb _ => gB b o (ub.keep b o e n hb), fun b o e n hb _ => ?_, fun b o e n _ => ub.free b o e n, fun b o e _ => ?_, ub.tups, ub.frzs, ub.tbls⟩ (hok.kept gB) ag (fun _ z => nomatch z)
    · obtain ⟨sl, q⟩ := ub.slot b o e hb
      exact ⟨sl, by rw [gF b hb]; exact q⟩
    · by_cases hb : b ∈ frs X.stack
      · obtain ⟨sl, q⟩ := ub.slot b o e hb
        exact ⟨_, by rw [gF b hb]; exact q⟩
      · obtain ⟨o', q⟩ := ub.there b o e hb
        exact ⟨o', gB b o' q⟩
  · obtain ⟨e', h⟩ := og b o e
    rcases h with h | h
    · obtain ⟨o', q⟩ := Option.isSome_iff_exists.mp h
      have z := st b o' q
      rw [e'] at z; cases z
      exact q
    · exact absurd h hb
/-- the wish within the block: the def's slots as they stand -/
def atS (W : WX) (σ : L2.St) : WX := fun cls d _ H => W cls d σ H
theorem hide1_get {B : Heap} {c b : Addr} {o : Obj} (h : (PySem.W.hideAll B [c]).get? b = some o) : b ≠ c ∧ B.get? b = some o := by
  refine ⟨fun z => ?_, PySem.W.of_hideAll _ h⟩
  have z2 : (PySem.W.hideAll B [c]).get? c = none := PySem.W.hideAll_none _ (List.mem_singleton.mpr rfl)
  rw [z, z2] at h
  cases h
theorem hide1_none {B : Heap} {c b : Addr} (e : B.get? b = none) : (PySem.W.hideAll B [c]).get? b = none := by
  cases q : (PySem.W.hideAll B [c]).get? b with
  | none => rfl
  | some o =>
    have z := (hide1_get q).2
    rw [e] at z
    cases z
section
variable {X : Cx}
/-- an exception of the block's element goes on in the def's frame -/
theorem blk_fails {W : WX} {L : Addr} {pins : List (Addr × Obj)} {σ : L2.St} {s3 : Shared} {H3 : Hp} {scope : Scope} {ce : Env} {fp : List Addr} {E : Value → Shared → Prop}
    (hfr : FrmAt X L) (tk : TakesL X L W) (I3 : Inv X pins σ H3 s3) (hce : ce.frame = X.env.frame) (f3 : ∀ b ∈ fp, FpOk X pins H3 b) (hC : ce.locals = s3.heap.objs.size) (hxe : E = notedBy (model X.prog X.w) X.A ce (CompFails (model X.prog X.w) X.A X.xe ce)) :
    TakesL ((X.blk s3 H3 scope ce fp).wish E) L (atS W σ) := by
  rintro u s' ⟨a, B, sI, pins', σ', H', cls, d, rfl, I', nb, up, fl, na, os, ag, w⟩
  obtain ⟨env0, outer0, hst, hf0, hfX⟩ := hfr.ex
  replace I' : Inv (X.blk s3 H3 scope ce fp) pins' σ' H' sI := I'.unwish
  replace nb : ∀ b o, sI.heap.get? b = some o → b ∉ frs X.stack → B.get? b = some o := nb
  replace fl : HandSPX.FlyingZ B X.stack a (Zc cls d) s'.heap ∨ HandSPX.HeldZ B X.stack a (Zc cls d) L s'.heap := fl
  have hA : X.A.frames = some (env0 :: outer0) := by rw [← hst]; exact I3.ok.frames
  have hcf : ce.frame = some L := hce.trans hfX
  have hef : ce.frame = env0.frame := hcf.trans hf0.symm
  have IX : Inv X pins σ H' sI := I3.call' (ch := fp) I'.os I'.base I'.hok I'.bare fun b hb => ⟨(f3 b hb).2.2.2.1, (f3 b hb).2.1, (f3 b hb).2.2.2.2.1, (f3 b hb).2.2.2.2.2⟩
  obtain ⟨m, hnC, _⟩ := I'.loc
  replace hnC : sI.heap.Ns ce.locals m := hnC
  have hfC : H' ce.locals = none := I'.free
  have f := I3.fpOk (H' := H') (b := ce.locals) (by rw [hC]; exact Nat.le_refl _) hfC
  obtain ⟨oC, esC, epC, hoC, hdC, hrC⟩ := hnC
  have hnC : sI.heap.Ns ce.locals m := ⟨oC, esC, epC, hoC, hdC, hrC⟩
  have hCs : ce.locals ∉ frs X.stack := fun hm => by
    have z := (IX.stack.mem hm)
    have z2 : ce.locals < s3.heap.objs.size := by
      obtain ⟨_, o, ho, _⟩ := I3.stack.mem hm
      exact Heap.lt_size ho
    rw [hC] at z2
    exact Nat.lt_irrefl _ z2
  have hBC : B.get? ce.locals = some oC := nb _ _ hoC hCs
  show E _ _
  rw [hxe]
  have held : ∀ h1, HandSPX.HeldZ B X.stack a (Zc cls d) L h1 → s'.heap.UpToSlots h1 → CompFails (model X.prog X.w) X.A X.xe ce (.ref a) { s' with heap := h1 } := by
    intro h1 hh up1
    refine ⟨m, (up.trans up1).ns hnC, fun h' m' hn' hs' => ?_⟩
    obtain ⟨b1, b0, b2, oe, vs, T, oT, ts, he, hz, hd, h1e, hnT, hTe, hT, hdT, h3⟩ := hh
    have hB' : ∀ b o, (PySem.W.hideAll B [ce.locals]).get? b = some o → b ≠ ce.locals ∧ B.get? b = some o := fun b o e => hide1_get e
    have hB0 : ∀ b, B.get? b = none → (PySem.W.hideAll B [ce.locals]).get? b = none := fun b e => hide1_none e
    have naC : a ≠ ce.locals := fun z => by rw [z, hBC] at b0; cases b0
    have nTC : T ≠ ce.locals := fun z => by rw [z, hBC] at hnT; cases hnT
    have hH : HandSPX.HeldZ (PySem.W.hideAll B [ce.locals]) X.stack a (Zc cls d) L h' := by
      refine ⟨fun b o e => ?_, hB0 _ b0, funFrames_none (Heap.FunFrames.sameBut hs' hn' b2) fun c hc => hB0 _ (b2.mem hc).1, oe, vs, T, oT, ts, (hs'.2 a naC).trans he, hz, hd, h1e, hB0 _ hnT, hTe, (hs'.2 T nTC).trans hT, hdT, h3⟩
      obtain ⟨e1, e2⟩ := hB' b o e
      exact (hs'.2 b e1).trans (b1 b o e2)
    have he' : h'.get? a = some oe := (hs'.2 a naC).trans he
    unfold PySem.passOn
    refine wpAny_bind (wpAny_field he' hd h1e ?_)
    rw [if_neg (show ¬ ((Value.ref T == Value.none) = true) from by simp)]
    rw [hcf]
    refine wpAny_bind (HandSPX.setFlight_onZ hH fun h2 hh2 up2 => wpAny_throw (tk _ _ ?_))
    obtain ⟨f0, f1, f2, f3', f4, f5⟩ := f
    refine ⟨a, PySem.W.hideAll B [ce.locals], { sI with heap := PySem.W.hideAll sI.heap [ce.locals], toks := sI.toks }, pins, σ, H', cls, d, rfl, IX.turned (it := ce.locals) (fun b o hb e => PySem.W.hideAll_get _ e (by simpa using hb)) f0 f1 f3' f4 f5, fun b o e hb => ?_, fun b o e hn => ?_, .inr hh2, na, os, ag, w⟩
    · have e0 : (PySem.W.hideAll sI.heap [ce.locals]).get? b = some o := e
      obtain ⟨e2, e1⟩ := hide1_get e0
      exact PySem.W.hideAll_get _ (nb b o e1 hb) (by simpa using e2)
    · have e0 : (PySem.W.hideAll sI.heap [ce.locals]).get? b = some o := e
      obtain ⟨e2, e1⟩ := hide1_get e0
      obtain ⟨sl, q⟩ := (up.trans up1) b o e1 hn
      obtain ⟨sl2, q2⟩ := up2 b _ ((hs'.2 b e2).trans q) hn
      exact ⟨sl2, q2⟩
  show wpAny _ _ (noteFrame (.ref a) ce) _ _ s'
  rw [noteFrame_env _ hef]
  rw [hst] at fl held
  rcases fl with fl | hh
  · exact HandSPX.looks_onZ Zc.steady hA hf0 fl held
  · exact HandSPX.againZ hf0 hh.2.2.2 (held s'.heap hh (Heap.UpToSlots.refl _))
theorem lc_coreX {L : Addr} {W : WX} {pins : List (Addr × Obj)} {s : Shared} {σ : L2.St} {H : Hp} {Q : VK} {elt tg iter : Expr} {ifs : List Expr} {scope : Scope} {own : List (Str × Nat)} {pos pos' : Pos} {wi : TI} {g : TG} {tt : TT} {te : WX → TE} {use : Option (Value → Sem Unit)} {Qf : Value → Shared → Prop}
    (hfr : FrmAt X L) (tk : TakesL X L W)
    (hc : X.calm = true) (hN : X.N.Nodup) (I : Inv X pins σ H s) (hi : PI X tg iter wi) (ok : BlkOk X.N X.env.scope scope own)
    (hg : ∀ (s : Shared) (H : Hp) (C : Addr) (cl : List (Str × Addr)) (fp : List Addr), PG (X.blk s H scope (compEnvC scope cl C X.env) fp) tg g) (ht : ∀ (s : Shared) (H : Hp) (C : Addr) (cl : List (Str × Addr)) (fp : List Addr), PTs (X.blk s H scope (compEnvC scope cl C X.env) fp) ifs tt)
    (he : ∀ (s : Shared) (H : Hp) (C : Addr) (cl : List (Str × Addr)) (fp : List Addr) (xe : Value → Shared → Prop) (Wb : WX), FrmAt ((X.blk s H scope (compEnvC scope cl C X.env) fp).wish xe) L → TakesL ((X.blk s H scope (compEnvC scope cl C X.env) fp).wish xe) L Wb → PE ((X.blk s H scope (compEnvC scope cl C X.env) fp).wish xe) elt (te Wb))
    (hs : ∀ x, foldedSetIterable iter X.env x = pure x)
    (h : tLc wi g tt (te (atS W σ)) (own.map (·.2)) σ H Q)
    (hRR : ∀ D C s' m H' (ce : Env), ce.locals = C → Inv X pins σ H' s' → Q (.ref D) H' → s'.heap.Ns C m → FpOk X pins H' C → compEnds (model X.prog X.w) X.A X.xe use Qf (.ref D) ce (.ok .next) s') :
    wpAny (model X.prog X.w) X.A (comprehension (.ListComp elt [⟨tg, iter, ifs, 0⟩] scope pos) scope X.env pos' (newList []) false (eval iter X.env) use) Qf X.xe s := by
  have hfree : ∀ y ∈ scope.names, y.2 = .free → ∃ c, X.env.cells.lookup y.1 = some c := fun y hy e => by
    rcases ok.free y hy e with k | k
    · exact I.ok.has _ (.inl k)
    · exact I.ok.has _ (.inr k)
  refine comprehension_at (use := use) rfl hs (closure_ok hfree) ok.kind (fun y hy e => by rw [ok.uniq y hy, e])
    (thn (hi.run pins s σ H _ I h) fun xv s1 hx => thn hx fun itv s2 h2 => ?_)
  obtain ⟨it, fp, tn, J, H2, e, I2, T, st2, f2, q⟩ := h2
  subst e
  refine wpAny_newObj_type (newEnv_comp ?_) (by show 0 ≤ sizeLine; decide)
  generalize hD : s2.heap.objs.size = D
  have hDn : H2 D = none := I2.hok.fresh (Nat.le_of_eq hD)
  obtain ⟨W', ⟨m0, w0⟩, turn⟩ := q D hDn
  -- the new list
  generalize hs3 : ({ s2 with heap := s2.heap.push { cls := .type "list", data := .seq ([] : List Value).toArray } } : Shared) = s3
  have I3 : Inv X pins σ (upd H2 D (.lst [])) s3 := by
    rw [← hs3]
    refine I2.laid (t' := s2.toks) (fun b o e => Heap.get?_push_of_some _ e) (Nat.le_of_eq hD) ⟨Nat.zero_le _, [], 0, .nil, ?_⟩
    rw [← hD]
    exact Heap.get?_push_size _ rfl
  have h3 : s3.heap = s2.heap.push { cls := .type "list", data := .seq ([] : List Value).toArray } := by rw [← hs3]
  have sz : ∀ b ∈ fp, b < s2.heap.objs.size := fun b hb => by
    obtain ⟨o, e, _⟩ := T.obj _ _ st2 b hb
    exact Heap.lt_size e
  have f3 : ∀ b ∈ fp, FpOk X pins (upd H2 D (.lst [])) b ∧ b < s3.heap.objs.size := fun b hb => by
    have hlt := sz b hb
    refine ⟨⟨?_, (f2 b hb).2⟩, by rw [h3, Heap.size_push]; exact Nat.lt_succ_of_lt hlt⟩
    rw [upd_ne (by rw [← hD]; exact Nat.ne_of_lt hlt)]
    exact (f2 b hb).1
  have st3 : tn 0 s3.heap := T.keep _ _ _ st2 fun b _ o e => by rw [h3]; exact Heap.get?_push_of_some _ e
  have I4 := block_start I3 ok hN f3
  have pg := hg s3 (upd H2 D (.lst [])) s3.heap.objs.size (cellsFrom (s3.heap.objs.size + 1) scope.names (cloFrom X.env.cells scope.names [])) fp
  have pt := ht s3 (upd H2 D (.lst [])) s3.heap.objs.size (cellsFrom (s3.heap.objs.size + 1) scope.names (cloFrom X.env.cells scope.names [])) fp
  have pe := he s3 (upd H2 D (.lst [])) s3.heap.objs.size (cellsFrom (s3.heap.objs.size + 1) scope.names (cloFrom X.env.cells scope.names [])) fp
  show codeAny _ _ (.compStart (.ListComp elt [⟨tg, iter, ifs, 0⟩] scope pos) 0 (.ref it) (.ref D) (compEnvC scope (cellsFrom (s3.heap.objs.size + 1) scope.names (cloFrom X.env.cells scope.names [])) s3.heap.objs.size X.env)) (compEnds (model X.prog X.w) X.A X.xe use Qf (.ref D) (compEnvC scope (cellsFrom (s3.heap.objs.size + 1) scope.names (cloFrom X.env.cells scope.names [])) s3.heap.objs.size X.env)) { s3 with heap := pushCells (s3.heap.push { cls := .type "dict", data := .dict #[] }) scope.names }
  have nfp : ∀ b ∈ fp, (upd H2 D (.lst [])) b = none := fun b hb => (f3 b hb).1.1
  generalize hce : compEnvC scope (cellsFrom (s3.heap.objs.size + 1) scope.names (cloFrom X.env.cells scope.names [])) s3.heap.objs.size X.env = ce at I4 pg pt pe ⊢
  have cL : ce.locals = s3.heap.objs.size := by subst hce; rfl
  have cF : ce.frame = X.env.frame := by subst hce; rfl
  generalize hH3 : upd H2 D (.lst []) = H3 at I3 I4 pg pt pe w0 nfp f3
  have tkB := blk_fails (scope := scope) (fp := fp) hfr tk I3 cF (fun b hb => (f3 b hb).1) cL rfl
  have frB : FrmAt ((X.blk s3 H3 scope ce fp).wish (notedBy (model X.prog X.w) X.A ce (CompFails (model X.prog X.w) X.A X.xe ce))) L := by
    obtain ⟨e0, o0, x1, x2, x3⟩ := hfr.ex
    exact ⟨e0, o0, x1, x2, cF.trans x3⟩
  have pe := pe _ _ frB tkB
  generalize hs4 : ({ s3 with heap := pushCells (s3.heap.push { cls := .type "dict", data := .dict #[] }) scope.names } : Shared) = s4 at I4 ⊢
  have st4 : tn 0 s4.heap := T.keep _ _ _ st3 fun b _ o e => by rw [← hs4]; exact pushCells_keeps _ _ _ _ (Heap.get?_push_of_some _ e)
  have stat : ∀ {σ' : L2.St} {H' : Hp} {s' : Shared}, Inv (X.blk s3 H3 scope ce fp) [] σ' H' s' → (∀ b ∈ fp, H' b = none) → ∀ b ∈ fp, FpOk (X.blk s3 H3 scope ce fp) [] H' b := fun {σ' H' s'} I' hn b hb =>
    ⟨hn b hb, (I'.ok.exf b hb).1, I'.ok.exfs b hb, .inl hb, fun x c e => (I'.ok.exf b hb).2 x c e, fun p hp => absurd (show p ∈ ([] : List (Addr × Obj)) ++ [] from hp) (by simp)⟩
  have loop : codeAny (model X.prog X.w) X.A (.compLoop (.ListComp elt [⟨tg, iter, ifs, 0⟩] scope pos) 0 (.ref it) (.ref D) ce) (compEnds (model X.prog X.w) X.A X.xe use Qf (.ref D) ce) s4 := by
    refine compLoop_any (fun n s' => ∃ i H', Inv (X.blk s3 H3 scope ce fp) [] (wipe σ (own.map (·.2))) H' s' ∧ tn i s'.heap ∧ (∀ b ∈ fp, H' b = none) ∧ W' i n H') ?_ m0 ⟨0, H3, I4, st4, nfp, w0⟩
    rintro n s5 ⟨i, H5, I5, st5, n5, w5⟩
    rcases turn i n H5 w5 with ⟨stop, qq⟩ | ⟨go, Nx, hNx, step⟩
    · have td := T.done (X.blk s3 H3 scope ce fp) rfl rfl rfl hc i [] s5 _ H5 (fun _ _ => False) I5 (stat I5 n5) st5 stop
      refine thnF td fun r s6 ⟨hr, I6⟩ => ?_
      subst hr
      -- back in the def's context
      have I7 : Inv X pins σ H5 s6 := I3.call' (ch := fp) I6.os I6.base I6.hok I6.bare fun b hb => ⟨(f3 b hb).1.2.2.2.1, (f3 b hb).1.2.1, (f3 b hb).1.2.2.2.2.1, (f3 b hb).1.2.2.2.2.2⟩
      have nC : H5 s3.heap.objs.size = none := by
        have z : H5 ce.locals = none := I6.free
        rw [cL] at z
        exact z
      obtain ⟨m, hn, _⟩ := I6.loc
      have hn : s6.heap.Ns ce.locals m := hn
      rw [cL] at hn
      exact hRR D s3.heap.objs.size s6 m H5 ce cL I7 qq hn (I3.fpOk (Nat.le_refl _) nC)
    · have ti := T.item (X.blk s3 H3 scope ce fp) rfl rfl rfl hc i [] s5 _ H5 (fun _ _ => False) I5 (stat I5 n5) st5 go
      refine thnF ti fun r s6 ⟨u, hr, h6⟩ => ?_
      subst hr
      refine thnF h6 fun _ s7 ⟨x, H7, I7, r7, y7, st7, n7⟩ => ?_
      have I7' := I7.pinned (stat I7 n7) (T.obj _ _ st7)
      refine thnF (pg.run _ s7 _ H7 x u _ I7' r7 (step x H7 y7)) fun _ s8 ⟨σ8, H8, I8, hw8, q8⟩ => ?_
      refine thnF (pt.run _ s8 σ8 H8 _ I8 q8) fun b s9 ⟨H9, I9, q9⟩ => ?_
      -- the turn's end
      have fin : ∀ {s' : Shared} {H' : Hp}, Inv (X.blk s3 H3 scope ce fp) ([] ++ pinsAt fp s7.heap) σ8 H' s' → Nx H' → ∃ m, m < n ∧ ∃ i H', Inv (X.blk s3 H3 scope ce fp) [] (wipe σ (own.map (·.2))) H' s' ∧ tn i s'.heap ∧ (∀ b ∈ fp, H' b = none) ∧ W' i m H' := fun {s' H'} I' nx => by
        obtain ⟨m', hm, w'⟩ := hNx H' nx
        have pin' : ∀ b ∈ fp, ∀ o, s7.heap.get? b = some o → s'.heap.get? b = some o ∧ H' b = none := fun b hb o e =>
          let z := I'.pin (b, o) (List.mem_append_right _ (List.mem_append_right _ (mem_pinsAt hb e)))
          ⟨z.1, z.2.1⟩
        have hl : (wipe σ (own.map (·.2))).length = σ8.length := by rw [← hw8, wipe_length]
        refine ⟨m', hm, i + 1, H', (I'.unpinned (pins := [])).weak hl (fun j v e => ?_), T.keep _ _ _ st7 fun b hb o e => (pin' b hb o e).1, fun b hb => ?_, w'⟩
        · rw [← hw8] at e
          exact (wipe_some e).1
        · obtain ⟨o, e, _⟩ := T.obj _ _ st7 b hb
          exact (pin' b hb o e).2
      cases b with
      | false =>
        simp only [Bool.false_eq_true, if_false] at q9 ⊢
        exact fin I9 q9
      | true =>
        simp only [if_true] at q9 ⊢
        refine thn (pe.run _ s9 σ8 H9 _ (I9.wish _) q9) fun z s10 ⟨yv, H10, I10, r10, acc, hD10, hz10, nx⟩ => ?_
        exact app_ok (X := X.blk s3 H3 scope ce fp) I10.unwish hD10 hz10 r10 fun s11 I11 => fin I11 nx
  exact codeAny_compStart_list loop (T.self X.A 0 _ _ _ st4 loop)
/-- as a value -/
theorem pe_lcX {L : Addr} {W : WX} {elt tg iter : Expr} {ifs : List Expr} {scope : Scope} {own : List (Str × Nat)} {pos : Pos} {wi : TI} {g : TG} {tt : TT} {te : WX → TE} (hfr : FrmAt X L) (tk : TakesL X L W)
    (hc : X.calm = true) (hN : X.N.Nodup) (hi : PI X tg iter wi) (ok : BlkOk X.N X.env.scope scope own)
    (hg : ∀ (s : Shared) (H : Hp) (C : Addr) (cl : List (Str × Addr)) (fp : List Addr), PG (X.blk s H scope (compEnvC scope cl C X.env) fp) tg g) (ht : ∀ (s : Shared) (H : Hp) (C : Addr) (cl : List (Str × Addr)) (fp : List Addr), PTs (X.blk s H scope (compEnvC scope cl C X.env) fp) ifs tt)
    (he : ∀ (s : Shared) (H : Hp) (C : Addr) (cl : List (Str × Addr)) (fp : List Addr) (xe : Value → Shared → Prop) (Wb : WX), FrmAt ((X.blk s H scope (compEnvC scope cl C X.env) fp).wish xe) L → TakesL ((X.blk s H scope (compEnvC scope cl C X.env) fp).wish xe) L Wb → PE ((X.blk s H scope (compEnvC scope cl C X.env) fp).wish xe) elt (te Wb))
    (hs : ∀ x, foldedSetIterable iter X.env x = pure x := by intro _; rfl) :
    PE X (.ListComp elt [⟨tg, iter, ifs, 0⟩] scope pos) (fun σ H Q => tLc wi g tt (te (atS W σ)) (own.map (·.2)) σ H Q) := by
  refine ⟨fun pins s σ H Q I h => ?_⟩
  rw [eval_ListComp]
  refine lc_coreX hfr tk hc hN I hi ok hg ht he hs h fun D C s' m H' ce hcl I' q hn f => ⟨m, by rw [hcl]; exact hn, fun h'' sb => ?_⟩
  obtain ⟨f0, f1, f2, f3, f4, f5⟩ := f
  exact ⟨.ref D, H', I'.turned (t' := s'.toks) (fun b o hb e => (sb.2 b (by rw [hcl]; exact hb)).trans e) f0 f1 f3 f4 f5, rfl, q⟩
/-- name = [..] on one line, the name a local -/
theorem ps_setLcX {L : Addr} {W : WX} {i : Nat} {y : Str} {py : Pos} {elt tg iter : Expr} {ifs : List Expr} {scope : Scope} {own : List (Str × Nat)} {pos spos : Pos} {wi : TI} {g : TG} {tt : TT} {te : WX → TE} (hfr : FrmAt X L) (tk : TakesL X L W)
    (hc : X.calm = true) (hN : X.N.Nodup) (hy : X.N[i]? = some y) (hyl : X.env.scope.names.lookup y = some .local)
    (hsw : swapsWith (.ListComp elt [⟨tg, iter, ifs, 0⟩] scope pos) (some (.Name y py)) spos.line X.env = pure true) (hi : PI X tg iter wi) (ok : BlkOk X.N X.env.scope scope own)
    (hg : ∀ (s : Shared) (H : Hp) (C : Addr) (cl : List (Str × Addr)) (fp : List Addr), PG (X.blk s H scope (compEnvC scope cl C X.env) fp) tg g) (ht : ∀ (s : Shared) (H : Hp) (C : Addr) (cl : List (Str × Addr)) (fp : List Addr), PTs (X.blk s H scope (compEnvC scope cl C X.env) fp) ifs tt)
    (he : ∀ (s : Shared) (H : Hp) (C : Addr) (cl : List (Str × Addr)) (fp : List Addr) (xe : Value → Shared → Prop) (Wb : WX), FrmAt ((X.blk s H scope (compEnvC scope cl C X.env) fp).wish xe) L → TakesL ((X.blk s H scope (compEnvC scope cl C X.env) fp).wish xe) L Wb → PE ((X.blk s H scope (compEnvC scope cl C X.env) fp).wish xe) elt (te Wb))
    (hs : ∀ x, foldedSetIterable iter X.env x = pure x := by intro _; rfl) :
    PS X (.Assign [.Name y py] (.ListComp elt [⟨tg, iter, ifs, 0⟩] scope pos) spos) (tAsg (fun σ H Q => tLc wi g tt (te (atS W σ)) (own.map (·.2)) σ H Q) (gName i)) := by
  refine ⟨fun pins s σ H D I h => ?_⟩
  rw [exec_Assign_Name_used _ _ _ _ hsw]
  refine wpAny_bind (wpAny_standAt (wpAny_bind ?_))
  show wpAny _ X.A (do let _ ← comprehension (.ListComp elt [⟨tg, iter, ifs, 0⟩] scope pos) scope X.env (firstIterPos [⟨tg, iter, ifs, 0⟩] pos) (newList []) false (eval iter X.env) (some (assign (.Name y py) X.env))) _ _ s
  have h : tLc wi g tt (te (atS W σ)) (own.map (·.2)) σ H (fun x H1 => gName i x σ H1 D.nx) := h
  refine wpAny_bind (thn (lc_coreX (Qf := fun _ s' => SP X pins D .next s') hfr tk hc hN I hi ok hg ht he hs h fun L' C s' m H' ce hcl I' q hn f => ?_) fun _ s' hq => wpAny_pure (wpAny_pure hq))
  show wpAny _ _ (assign (.Name y py) X.env (.ref L')) _ _ _
  refine wpAny_assign_Name (store_ok2 (v := V.ref L') I' hN hy (.inl hyl) rfl (fun s2 I2 ⟨a, sb, ha⟩ => ?_) (.inr hyl))
  obtain ⟨f0, f1, f2, f3, f4, f5⟩ := f
  have haC : C ≠ a := by
    rcases ha with z | z
    · rw [z]; exact f1
    · exact fun e => f4 y a z e.symm
  rw [hcl]
  refine ⟨m, hn.sameBut sb haC, fun h3 sb3 => ?_⟩
  exact ⟨_, H', I2.turned (t' := s2.toks) (fun b o hb e => (sb3.2 b hb).trans e) f0 f1 f3 f4 f5, q⟩
end
end FF
set_option maxHeartbeats 4000000
/-! comprehensions whose element may raise -/
namespace FF
open PySem PySem.Spec PyProof.Rows L2
theorem passL {X : Cx} {W : WX} {L : Addr} (tk : TakesL X L W) (σ : L2.St) : PassesAt (L2.CX X.prog X.w) X σ (WE W σ) := fun _ _ _ e s' I c => tk e s' (XEL.of_call I (fun _ _ _ h => h) c)
section
variable {X : Cx} {W : WX} {e a b tg iter : Expr} {f fa fb : DE} {pos : Pos} {es : List Expr} {fs fl : Sd → R (List D)} {fi : Sd → R (List D)}
theorem ed_callL {L : Addr} {x : Str} {p : Pos} {n k k' : Nat} {m : List D → R D} (tk : TakesL X L W) (hr : Room k' X.A) (hk : k ≤ k') (h : Calls X.prog X.w X.K X.mg X.base x n k m) (hg : Gl X x) (ha : AD X W (e :: es) fs)
    (hdb : (x == ("__debug__" : Str)) = false := by decide) (he : starEach (e :: es) X.env = (false, eval e X.env) :: starEach es X.env := by rfl) (hpl : (backTo pos (starEach es X.env)).any (·.1) = false := by rfl) :
    ED X W (.Call (.Name x p) (e :: es) [] pos) (eCall m fs) := by
  obtain ⟨f, fd, ps, hn, F, hm, hkp, hb⟩ := h.at_
  refine pe_imp (pe_callS F (hr.mono hk) hg hm hkp hb (fun σ => passL tk σ) ha hdb he hpl) fun σ H Q ⟨Oc, Om, σd, s, q⟩ => tDA_seq s q fun ds vs H1 e1 rs s1 h1 => ?_
  refine ⟨Oc ++ Om, ds, ?_, s1.1, rs, R.post_imp h1 (fun d _ p v H' e' r => p v H' (e1.trans e') r) fun c _ z => z⟩
  by_cases z : ds.length = n
  · exact z
  · rw [h.ar ds z] at h1
    exact h1.elim
def lcDX (own : List Nat) (t : Tgt) (tt : Sd → R Bool) (te : DE) (σ : Sd) : List D → R (List D)
  | [] => .ok []
  | d :: ds => (t.put d (clrO own σ)).then fun σ1 => (tt σ1).yn (te σ1 >>= fun y => lcDX own t tt te σ ds >>= fun ys => .ok (y :: ys)) (lcDX own t tt te σ ds)
def lcAllX (own : List Nat) (t : Tgt) (tt : Sd → R Bool) (te : DE) (fi : Sd → R (List D)) : Sd → R (List D) := fun σ => fi σ >>= fun ds => if ds.length ≤ sizeLine then lcDX own t tt te σ ds else .stuck
def eLcX (own : List Nat) (t : Tgt) (tt : Sd → R Bool) (te : DE) (fi : Sd → R (List D)) : DE := fun σ => lcAllX own t tt te fi σ >>= fun ys => .ok (.lst ys)
theorem bind_assoc' {α β γ : Type} (r : R α) (f : α → R β) (g : β → R γ) : (r >>= f >>= g) = (r >>= fun a => f a >>= g) := by cases r <;> rfl
theorem lcDX_len (own : List Nat) (t : Tgt) (tt : Sd → R Bool) (te : DE) (σ : Sd) : ∀ (ds ys : List D), lcDX own t tt te σ ds = .ok ys → ys.length ≤ ds.length
  | [], ys, h => by
    cases h
    exact Nat.le_refl _
  | d :: ds, ys, h => by
    unfold lcDX at h
    cases q : t.put d (clrO own σ) with
    | stuck => rw [q] at h; cases h
    | exc c => rw [q] at h; cases h
    | ok σ1 =>
      rw [q] at h
      replace h : (tt σ1).yn (te σ1 >>= fun y => lcDX own t tt te σ ds >>= fun ys => .ok (y :: ys)) (lcDX own t tt te σ ds) = R.ok ys := h
      cases q1 : tt σ1 with
      | stuck => rw [q1] at h; cases h
      | exc c => rw [q1] at h; cases h
      | ok b =>
        rw [q1] at h
        cases b with
        | false => exact Nat.le_succ_of_le (lcDX_len own t tt te σ ds ys h)
        | true =>
          replace h : (te σ1 >>= fun y => lcDX own t tt te σ ds >>= fun ys => .ok (y :: ys)) = R.ok ys := h
          cases q2 : te σ1 with
          | stuck => rw [q2] at h; cases h
          | exc c => rw [q2] at h; cases h
          | ok y =>
            rw [q2] at h
            replace h : (lcDX own t tt te σ ds >>= fun ys => .ok (y :: ys)) = R.ok ys := h
            cases q3 : lcDX own t tt te σ ds with
            | stuck => rw [q3] at h; cases h
            | exc c => rw [q3] at h; cases h
            | ok zs =>
              rw [q3] at h
              cases h
              exact Nat.succ_le_succ (lcDX_len own t tt te σ ds zs q3)
/-- the comprehension's reading, its list at D fresh -/
theorem lc_readX {own : List Nat} {t : Tgt} {tt : Sd → R Bool} {te : DE} {fi : Sd → R (List D)} (hw : ∀ i ∈ t.slots, i ∈ own) {Oc Om : List Addr} {σd : Sd} {σ : L2.St} {H : Hp} {Q : VK} {β : Type} {k : List D → R β} {P : β → Prop}
    (s : SR (bdOf X) Oc Om σd σ H) (h : (lcAllX own t tt te fi σd >>= k).post P (exE (bdOf X) W σ H))
    (hk : ∀ ys p vs H', Same H H' → H p = none → H' p = some (.lst vs) → RepL (bdOf X) (minus H' (p :: (Oc ++ Om))) ys vs → ys.length ≤ sizeLine → (k ys).post P (exE (bdOf X) W σ H') → Q (.ref p) H') :
    tLc (tI (bdOf X) W fi) (t.g X.K) (tDT (bdOf X) W0 tt) (tD (bdOf X) (atS W σ) te) own σ H Q := by
  refine ⟨Oc, Om, σd, s, ?_⟩
  cases q : fi σd with
  | stuck => unfold lcAllX at h; rw [q] at h; exact h
  | exc c =>
    unfold lcAllX at h
    rw [q] at h
    exact h
  | ok ds =>
    unfold lcAllX at h
    rw [q] at h
    intro J H1 e1 y
    intro D hD
    replace h : ((if ds.length ≤ sizeLine then lcDX own t tt te σd ds else .stuck) >>= k).post P (exE (bdOf X) W σ H) := h
    by_cases hz : ds.length ≤ sizeLine
    case neg => rw [if_neg hz] at h; exact h.elim
    rw [if_pos hz] at h
    obtain ⟨Y, w, wy⟩ := y.w
    have s1 := s.same e1
    have hDO := s1.ndO hD
    have base : SR (bdOf X) (D :: Oc) Om (clrO own σd) (wipe σ own) (upd H1 D (.lst [])) := (s1.temp hD).wipe own
    have hHD : H D = none := by
      cases z : H D with
      | none => rfl
      | some o => rw [e1 _ _ z] at hD; cases hD
    refine lc_it w (fun i H' => ∃ acc vs, H' D = some (.lst vs) ∧ SR (bdOf X) (D :: Oc) Om (clrO own σd) (wipe σ own) H' ∧ (∀ b o, b ≠ D → H1 b = some o → H' b = some o) ∧ RepL (bdOf X) (minus H' (D :: (Oc ++ Om))) acc vs ∧ acc.length ≤ i ∧
        (lcDX own t tt te σd (ds.drop i) >>= fun zs => k (acc ++ zs)).post P (exE (bdOf X) W σ H)) ?_ ?_ ?_ ?_
    · exact ⟨[], [], upd_same, base, fun b o hb e => by rw [upd_ne hb]; exact e, .nil, Nat.le_refl _, by simpa using h⟩
    · intro i H' _ ⟨acc, vs, _, _, k1, _⟩ a o ha
      obtain ⟨a1, a2⟩ := minus_some.mp ha
      exact k1 a o (fun z => by rw [z, hD] at a2; cases a2) a2
    · intro i x H' H'' hi ⟨acc, vs, hvs, s', k1, rr, la, ql⟩ yy
      have sub : Same (fz H1 Oc Om) H' := fun a o ha => by
        obtain ⟨a1, a2⟩ := minus_some.mp ha
        exact k1 a o (fun z => by rw [z, hD] at a2; cases a2) a2
      obtain ⟨e2, wz⟩ := wy i H' x H'' hi sub yy
      have sub2 : Same (fz H1 Oc Om) (fz H' (D :: Oc) Om) := fun a o ha => by
        obtain ⟨a1, a2⟩ := minus_some.mp ha
        have ne : a ≠ D := fun z => by rw [z, hD] at a2; cases a2
        exact minus_some.mpr ⟨by simpa [ne] using a1, k1 a o ne a2⟩
      obtain ⟨d, hd, r⟩ := wz (D :: Oc) Om s'.1 sub2
      obtain ⟨hdl, hdl2⟩ := List.getElem?_eq_some_iff.mp hd
      have e3 : ds.drop i = d :: ds.drop (i + 1) := by
        rw [List.drop_eq_getElem_cons hdl, hdl2]
      rw [e3] at ql
      unfold lcDX at ql
      cases q3 : t.put d (clrO own σd) with
      | stuck => rw [q3] at ql; exact ql.elim
      | exc c => rw [q3] at ql; exact ql.elim
      | ok σ1 =>
        rw [q3] at ql
        refine Tgt.put_ok (B := bdOf X) t (s'.same e2) r q3 fun σ2 s3 hw2 => ⟨(hw2 own hw).trans wipe_idem, ?_⟩
        refine ⟨D :: Oc, Om, σ1, s3, ?_⟩
        have k2 : ∀ b o, b ≠ D → H1 b = some o → H'' b = some o := fun b o hb e => e2 _ _ (k1 b o hb e)
        have subR : Same (minus H' (D :: (Oc ++ Om))) (minus H'' (D :: (Oc ++ Om))) := same_minus e2
        replace ql : ((tt σ1).yn (te σ1 >>= fun y => lcDX own t tt te σd (ds.drop (i + 1)) >>= fun ys => .ok (y :: ys)) (lcDX own t tt te σd (ds.drop (i + 1))) >>= fun zs => k (acc ++ zs)).post P (exE (bdOf X) W σ H) := ql
        cases q4 : tt σ1 with
        | stuck => rw [q4] at ql; exact ql.elim
        | exc c => rw [q4] at ql; exact ql.elim
        | ok b =>
          rw [q4] at ql
          intro H3 e3
          have s4 := s3.same e3
          cases b with
          | false =>
            exact iteF ⟨acc, vs, e3 _ _ (e2 _ _ hvs), (s'.same e2).same e3, fun b o hb e => e3 _ _ (k2 b o hb e), (rr.mono subR).mono (same_minus e3), Nat.le_succ_of_le la, ql⟩
          | true =>
            replace ql : ((te σ1 >>= fun y => lcDX own t tt te σd (ds.drop (i + 1)) >>= fun ys => .ok (y :: ys)) >>= fun zs => k (acc ++ zs)).post P (exE (bdOf X) W σ H) := ql
            rw [bind_assoc'] at ql
            refine iteT ⟨D :: Oc, Om, σ1, s4, ?_⟩
            have sm3 : Same H H3 := fun b o e => e3 _ _ (k2 b o (fun z => by rw [z, hHD] at e; cases e) (e1 _ _ e))
            refine R.post_imp (R.post_bind ql) (fun yv _ ql v H4 e4 rv => ?_) (fun c _ z => z.mono sm3)
            rw [bind_assoc'] at ql
            have hv4 : H4 D = some (.lst vs) := e4 _ _ (e3 _ _ (e2 _ _ hvs))
            have rr4 : RepL (bdOf X) (minus H4 (D :: (Oc ++ Om))) acc vs := (((rr.mono subR).mono (same_minus e3)).mono (same_minus e4))
            have nD : D ∉ Om := fun z => hDO (by simp [z])
            have fz5 : minus (upd H4 D (.lst (vs ++ [v]))) (D :: (Oc ++ Om)) = minus H4 (D :: (Oc ++ Om)) := by
              funext b
              unfold minus
              by_cases hb : b = D
              · subst hb; simp
              · simp [hb, upd_ne hb]
            refine ⟨vs, hv4, by rw [rr4.length]; omega, acc ++ [yv], vs ++ [v], upd_same, ?_, fun b o hb e => by rw [upd_ne hb]; exact e4 _ _ (e3 _ _ (k2 b o hb e)), ?_, ?_, ?_⟩
            · exact (((s'.same e2).same e3).same e4).tempW nD
            · rw [fz5]
              exact rr4.append (.cons rv .nil)
            · rw [List.length_append]
              exact Nat.succ_le_succ la
            · have z : (fun zs => k (acc ++ [yv] ++ zs)) = fun zs => (R.ok (yv :: zs) >>= fun zs => k (acc ++ zs)) := by
                funext zs
                rw [List.append_assoc]
                rfl
              rw [z]
              exact ql
    · intro H' ⟨acc, vs, hvs, s', k1, rr, la, ql⟩
      rw [List.drop_length] at ql
      replace ql : (k (acc ++ [])).post P (exE (bdOf X) W σ H) := ql
      rw [List.append_nil] at ql
      have sm : Same H H' := fun b o e => k1 b o (fun z => by rw [z, hHD] at e; cases e) (e1 _ _ e)
      exact hk acc D vs H' sm hHD hvs rr (Nat.le_trans la hz) (R.post_imp ql (fun _ _ p => p) fun c _ z => z.mono sm)
variable {elt : Expr} {ifs : List Expr} {scope : Scope} {own : List (Str × Nat)} {tt : Sd → R Bool} {te : DE}
theorem ed_lcX {L : Addr} (hfr : FrmAt X L) (tk : TakesL X L W) (t : Tgt) (hc : X.calm = true) (hN : X.N.Nodup) (hi : ID X W tg iter fi) (ok : BlkOk X.N X.env.scope scope own) (hw : ∀ i ∈ t.slots, i ∈ own.map (·.2))
    (hg : ∀ (s : Shared) (H : Hp) (C : Addr) (cl : List (Str × Addr)) (fp : List Addr), PG (X.blk s H scope (compEnvC scope cl C X.env) fp) tg (t.g X.K)) (ht : ∀ (s : Shared) (H : Hp) (C : Addr) (cl : List (Str × Addr)) (fp : List Addr), ID0 (X.blk s H scope (compEnvC scope cl C X.env) fp) ifs tt)
    (he : ∀ (s : Shared) (H : Hp) (C : Addr) (cl : List (Str × Addr)) (fp : List Addr) (xe : Value → Shared → Prop) (Wb : WX), FrmAt ((X.blk s H scope (compEnvC scope cl C X.env) fp).wish xe) L → TakesL ((X.blk s H scope (compEnvC scope cl C X.env) fp).wish xe) L Wb →
      ED ((X.blk s H scope (compEnvC scope cl C X.env) fp).wish xe) Wb elt te) (hs : ∀ x, foldedSetIterable iter X.env x = pure x := by intro _; rfl) :
    ED X W (.ListComp elt [⟨tg, iter, ifs, 0⟩] scope pos) (eLcX (own.map (·.2)) t tt te fi) :=
  pe_imp (pe_lcX (te := fun Wb => tD (bdOf X) Wb te) hfr tk hc hN hi ok hg ht he hs) fun σ H Q ⟨Oc, Om, σd, s, h⟩ => lc_readX hw s h fun ys p vs H' e1 hp hv r hz h1 =>
    h1 _ H' e1 (lc_frz (fun a ha z => s.1 a ha (z ▸ hp)) hv r)
/-- y = [..] -/
theorem sd_lcX {L : Addr} (hfr : FrmAt X L) (tk : TakesL X L W) (t : Tgt) {i : Nat} {y : Str} {py spos : Pos} (hc : X.calm = true) (hN : X.N.Nodup) (hy : X.N[i]? = some y) (hyl : X.env.scope.names.lookup y = some .local)
    (hsw : swapsWith (.ListComp elt [⟨tg, iter, ifs, 0⟩] scope pos) (some (.Name y py)) spos.line X.env = pure true) (hi : ID X W tg iter fi) (ok : BlkOk X.N X.env.scope scope own) (hw : ∀ i ∈ t.slots, i ∈ own.map (·.2))
    (hg : ∀ (s : Shared) (H : Hp) (C : Addr) (cl : List (Str × Addr)) (fp : List Addr), PG (X.blk s H scope (compEnvC scope cl C X.env) fp) tg (t.g X.K)) (ht : ∀ (s : Shared) (H : Hp) (C : Addr) (cl : List (Str × Addr)) (fp : List Addr), ID0 (X.blk s H scope (compEnvC scope cl C X.env) fp) ifs tt)
    (he : ∀ (s : Shared) (H : Hp) (C : Addr) (cl : List (Str × Addr)) (fp : List Addr) (xe : Value → Shared → Prop) (Wb : WX), FrmAt ((X.blk s H scope (compEnvC scope cl C X.env) fp).wish xe) L → TakesL ((X.blk s H scope (compEnvC scope cl C X.env) fp).wish xe) L Wb →
      ED ((X.blk s H scope (compEnvC scope cl C X.env) fp).wish xe) Wb elt te) (hs : ∀ x, foldedSetIterable iter X.env x = pure x := by intro _; rfl) :
    SD X W (.Assign [.Name y py] (.ListComp elt [⟨tg, iter, ifs, 0⟩] scope pos) spos) (sSet i (eLcX (own.map (·.2)) t tt te fi)) :=
  ps_imp (ps_setLcX (tt := tDT (bdOf X) W0 tt) (te := fun Wb => tD (bdOf X) Wb te) hfr tk hc hN hy hyl hsw hi ok hg ht he hs) fun Dn σ H ⟨Oc, Om, σd, s, h⟩ => by
    unfold sSet eLcX at h
    show tLc (tI (bdOf X) W fi) (t.g X.K) (tDT (bdOf X) W0 tt) (tD (bdOf X) (atS W σ) te) (own.map (·.2)) σ H (fun x H1 => gName i x σ H1 Dn.nx)
    refine lc_readX (W := W) (tt := tt) (te := te) (P := fun ys => (if i < σd.length then Out.next (σd.set i (some (.lst ys))) else .stuck).all (bdOf X) W Oc Om H Dn) (k := fun ys => R.ok ys) hw s ?_ (fun ys p vs H' e1 hp hv r hz h1 => ?_)
    · cases q : lcAllX (own.map (·.2)) t tt te fi σd with
      | stuck => rw [q] at h; exact h.elim
      | exc c =>
        rw [q] at h
        exact fun C H' hc e => h C σ Om H' hc (s.same e) (.of_same e)
      | ok ys =>
        rw [q] at h
        exact h
    · replace h1 : (if i < σd.length then Out.next (σd.set i (some (.lst ys))) else .stuck).all (bdOf X) W Oc Om H Dn := h1
      by_cases hl : i < σd.length
      case neg => rw [if_neg hl] at h1; exact h1.elim
      rw [if_pos hl] at h1
      exact h1 _ Om H' ((s.same e1).setF' hl (lc_frz (fun a ha z => s.1 a ha (z ▸ hp)) hv r)) (.of_same e1)
end
/-- in a def's body -/
theorem FrmAt.def_ {X : Cx} (hs : X.stack = X.env :: X.outer) (hf : X.env.frame = some X.env.locals) : FrmAt X X.env.locals := ⟨_, _, hs, hf, hf⟩
end FF
set_option maxHeartbeats 4000000
/-! a call of a def that an expression tells -/
namespace FF
open PySem PySem.Spec PyProof.Rows L2
section
variable {X : Cx} {W : WX} {e func : Expr} {f0 : DE} {pos : Pos} {es : List Expr} {fs : Sd → R (List D)}
/-- the name of a def, as a value -/
theorem ed_fn {x : Str} {f : Addr} (hm : X.mg x = some (.ref f)) (hg : Gl X x) (hd : (x == ("__debug__" : Str)) = false := by decide) : ED X W (.Name x pos) (eK (.fn x)) :=
  ed_c (v := .ref f) (pe_glob hg hm rfl hd) fun _ => ⟨f, rfl, hm⟩
def eCallF (tab : List (Str × (List D → R D))) (f0 : DE) (fs : Sd → R (List D)) : DE := fun σ => f0 σ >>= fun g => match g with
  | .fn x => (match tab.lookup x with
    | some m => fs σ >>= m
    | none => .stuck)
  | _ => .stuck
/-- what is called, by names -/
def CallTab (P : Program) (w : World) (K : PySem.W.Frag) (mg : Str → Option Value) (base : Heap) (n k' : Nat) (tab : List (Str × (List D → R D))) : Prop := ∀ p ∈ tab, ∃ k, k ≤ k' ∧ Calls P w K mg base p.1 n k p.2
theorem CallTab.nil {P : Program} {w : World} {K : PySem.W.Frag} {mg : Str → Option Value} {base : Heap} {n k' : Nat} : CallTab P w K mg base n k' [] := fun _ h => nomatch h
theorem CallTab.cons {P : Program} {w : World} {K : PySem.W.Frag} {mg : Str → Option Value} {base : Heap} {n k k' : Nat} {x : Str} {m : List D → R D} {tab : List (Str × (List D → R D))} (h : Calls P w K mg base x n k m) (hk : k ≤ k') (t : CallTab P w K mg base n k' tab) :
    CallTab P w K mg base n k' ((x, m) :: tab) := fun p hp => by
  rcases List.mem_cons.mp hp with z | z
  · subst z
    exact ⟨k, hk, h⟩
  · exact t p z
theorem callF_run {n k' : Nat} {tab : List (Str × (List D → R D))} (px : ∀ σ, PassesAt (L2.CX X.prog X.w) X σ (WE W σ)) (hr : Room k' X.A) (ht : CallTab X.prog X.w X.K X.mg X.base n k' tab) (hf : ED X W func f0) (ha : AD X W (e :: es) fs)
    (hc : eval (.Call func (e :: es) [] pos) X.env = (do callWith pos (← eval func X.env) [] (backTo pos (starEach (e :: es) X.env)) (backToKw pos (keywordEach [] X.env))))
    (he : starEach (e :: es) X.env = (false, eval e X.env) :: starEach es X.env) (hpl : (backTo pos (starEach es X.env)).any (·.1) = false) :
    ED X W (.Call func (e :: es) [] pos) (eCallF tab f0 fs) := by
  refine ⟨fun pins s σ H Q I h => ?_⟩
  obtain ⟨Oc, Om, σd, sr, h⟩ := h
  rw [hc]
  unfold eCallF at h
  cases q : f0 σd with
  | stuck => rw [q] at h; exact h.elim
  | exc c =>
    rw [q] at h
    refine wpAny_bind (thn (hf.run pins s σ H (fun _ _ => False) I ⟨Oc, Om, σd, sr, by rw [q]; exact h⟩) fun u s1 ⟨v, H1, I1, r1, q1⟩ => q1.elim)
  | ok g =>
    rw [q] at h
    cases g <;> first | exact h.elim | skip
    rename_i x
    replace h : (match tab.lookup x with
      | some m => fs σd >>= m
      | none => .stuck : R D).post _ _ := h
    cases ql : tab.lookup x with
    | none => rw [ql] at h; exact h.elim
    | some m =>
      rw [ql] at h
      replace h : (fs σd >>= m).post (fun d => ∀ v H', Same H H' → Rep (bdOf X) (fz H' Oc Om) d v → Q v H') (exE (bdOf X) W σ H) := h
      obtain ⟨k, hk, cl⟩ := ht (x, m) (PySem.mem_of_lookup ql)
      obtain ⟨f, fd, ps, hn, F, hm, hkp, hb⟩ := cl.at_
      replace hm : X.mg x = some (.ref f) := hm
      refine wpAny_bind (thn (hf.run pins s σ H (fun v H1 => v = .ref f ∧ Same H H1) I ⟨Oc, Om, σd, sr, by
        rw [q]
        exact fun v H1 e1 r => by
          obtain ⟨f', hv, hm'⟩ := r
          replace hm' : X.mg x = some (.ref f') := hm'
          rw [hm] at hm'
          cases hm'
          exact ⟨hv, e1⟩⟩) fun u s1 ⟨v, H1, I1, r1, hv, e1⟩ => ?_)
      subst hv
      cases r1
      have s1' := sr.same e1
      refine PySem.W.callWith_K (h₀ := X.base) I.ok.mod.kin hkp (thn (ha.run pos pins s1 σ H1 (fun vs H2 => ∃ ds, Same H1 H2 ∧ RepL (bdOf X) (fz H2 Oc Om) ds vs ∧ (m ds).post (fun d => ∀ v H', Same H H' → Rep (bdOf X) (fz H' Oc Om) d v → Q v H') (exE (bdOf X) W σ H)) I1
        ⟨Oc, Om, σd, s1', R.post_imp (R.post_bind h) (fun ds _ p vs H2 e2 rs => ⟨ds, e2, rs, p⟩) fun c _ z => z.mono e1⟩) fun us s2 ⟨vs, H2, I2, r, ds, e2, rs, p⟩ => ⟨I2.kIn, ?_⟩) he hpl
      refine run_fnS F (hr.mono hk) hb (px σ) I2 r ⟨Oc ++ Om, ds, ?_, (s1'.same e2).1, rs, R.post_imp p (fun d _ p v H' e' r => p v H' (e1.trans (e2.trans e')) r) fun c _ z C H' hc e' => z C H' hc (e1.trans (e2.trans e'))⟩
      by_cases z : ds.length = n
      · exact z
      · rw [show m ds = .stuck from cl.ar ds z] at p
        exact p.elim
theorem ed_callF {n k' : Nat} {tab : List (Str × (List D → R D))} (tk : Takes X W) (hr : Room k' X.A) (ht : CallTab X.prog X.w X.K X.mg X.base n k' tab) (hf : ED X W func f0) (ha : AD X W (e :: es) fs)
    (hc : eval (.Call func (e :: es) [] pos) X.env = (do callWith pos (← eval func X.env) [] (backTo pos (starEach (e :: es) X.env)) (backToKw pos (keywordEach [] X.env))) := by rfl)
    (he : starEach (e :: es) X.env = (false, eval e X.env) :: starEach es X.env := by rfl) (hpl : (backTo pos (starEach es X.env)).any (·.1) = false := by rfl) :
    ED X W (.Call func (e :: es) [] pos) (eCallF tab f0 fs) := callF_run (fun σ => passAt tk σ) hr ht hf ha hc he hpl
theorem ed_callFL {L : Addr} {n k' : Nat} {tab : List (Str × (List D → R D))} (tk : TakesL X L W) (hr : Room k' X.A) (ht : CallTab X.prog X.w X.K X.mg X.base n k' tab) (hf : ED X W func f0) (ha : AD X W (e :: es) fs)
    (hc : eval (.Call func (e :: es) [] pos) X.env = (do callWith pos (← eval func X.env) [] (backTo pos (starEach (e :: es) X.env)) (backToKw pos (keywordEach [] X.env))) := by rfl)
    (he : starEach (e :: es) X.env = (false, eval e X.env) :: starEach es X.env := by rfl) (hpl : (backTo pos (starEach es X.env)).any (·.1) = false := by rfl) :
    ED X W (.Call func (e :: es) [] pos) (eCallF tab f0 fs) := callF_run (fun σ => passL tk σ) hr ht hf ha hc he hpl
end
end FF
set_option maxHeartbeats 4000000
/-! a list or a tuple turned about; range(a, b, c); x, y = e, [..] -/
namespace FF
open PySem PySem.Spec PyProof.Rows L2
section
variable {prog : Program} {w : World} {A : Around} {E : Value → Shared → Prop} {s : Shared}
theorem adjust_rev (n : Nat) : Builtin.Slice.sliceAdjust none none (-1) (n : Int) = ((n : Int) - 1, -1) := by
  unfold Builtin.Slice.sliceAdjust
  simp
theorem places_rev (n : Nat) : Builtin.Slice.slicePlaces ((n : Int) - 1) (-1) (-1) = n := by
  unfold Builtin.Slice.slicePlaces
  simp
  omega
theorem sliceApplied_rev {sl : Addr} {vs : Value} {n : Nat} {Q : Int × Int × Nat → Shared → Prop} (hs : s.heap.IsSliceOf sl .none .none vs) (ps : IsPart vs (some (-1)))
    (h : Q ((n : Int) - 1, -1, n) s) : wpAny (model prog w) A (Builtin.Slice.sliceApplied (.ref sl) (pure (n : Int))) Q E s := by
  obtain ⟨os, hos, hcs, hds⟩ := id hs
  unfold Builtin.Slice.sliceApplied Builtin.Slice.sliceFields
  refine wpAny_bind (wpAny_bind (wpAny_field hos hds (x := .none) rfl (wpAny_bind (wpAny_field hos hds (x := .none) rfl (wpAny_bind (wpAny_field hos hds (x := vs) rfl (wpAny_pure ?_)))))))
  refine wpAny_bind (HT.slicePart_ ps ?_)
  show wpAny _ _ (if ((-1 : Int) == 0) = true then _ else _) _ _ s
  rw [if_neg (by decide)]
  refine wpAny_bind (slicePart_none (wpAny_bind (slicePart_none (wpAny_bind (wpAny_pure ?_)))))
  show wpAny _ _ (match Builtin.Slice.sliceAdjust none none (-1) (n : Int) with | (lo, hi) => pure (lo, (-1 : Int), Builtin.Slice.slicePlaces lo hi (-1))) _ _ s
  rw [adjust_rev n]
  show wpAny _ _ (pure ((n : Int) - 1, (-1 : Int), Builtin.Slice.slicePlaces ((n : Int) - 1) (-1) (-1))) _ _ s
  rw [places_rev]
  exact wpAny_pure h
theorem filterMap_some {α β : Type} {f : α → Option β} {g : α → β} : ∀ {l : List α}, (∀ a ∈ l, f a = some (g a)) → l.filterMap f = l.map g
  | [], _ => rfl
  | a :: l, h => by
    rw [List.filterMap_cons, h a (by simp), List.map_cons, filterMap_some fun b hb => h b (by simp [hb])]
theorem pick_rev (xs : Array Value) : ((List.range xs.size).filterMap fun (m : Nat) => xs[(((xs.size : Nat) : Int) - 1 + (m : Int) * -1).toNat]?).toArray = xs.toList.reverse.toArray := by
  congr 1
  apply List.ext_getElem?
  intro i
  have e : ((List.range xs.size).filterMap fun (m : Nat) => xs[(((xs.size : Nat) : Int) - 1 + (m : Int) * -1).toNat]?) = (List.range xs.size).map fun m => xs[xs.size - 1 - m]?.getD .none := by
    refine filterMap_some fun m hm => ?_
    have hm := List.mem_range.mp hm
    have e : (((xs.size : Nat) : Int) - 1 + (m : Int) * -1).toNat = xs.size - 1 - m := by omega
    rw [e]
    have hl : xs.size - 1 - m < xs.size := by omega
    simp [Array.getElem?_eq_getElem hl]
  rw [e]
  by_cases hi : i < xs.size
  · have hl : xs.size - 1 - i < xs.size := by omega
    rw [List.getElem?_reverse (by simpa using hi)]
    simp [hi, hl]
  · rw [List.getElem?_eq_none (by simpa using hi), List.getElem?_eq_none (by simpa using hi)]
theorem getItem_tuple_rev {t sl : Addr} {items : Array Value} {vs : Value} {Q : Value → Shared → Prop} (ht : IsTup s.heap t items) (hs : s.heap.IsSliceOf sl .none .none vs) (ps : IsPart vs (some (-1)))
    (h : Q (.ref s.heap.objs.size) { s with heap := s.heap.push { cls := .type "tuple", data := .seq items.toList.reverse.toArray } })
    (hsz : items.size ≤ sizeLine) : wpAny (model prog w) A (getItem (.ref t) (.ref sl)) Q E s := by
  have htake : sizeOk (.seq items.toList.reverse.toArray) := by
    show items.toList.reverse.toArray.size ≤ sizeLine
    rw [List.size_toArray, List.length_reverse, Array.length_toList]
    exact hsz
  obtain ⟨os, hos, hcs, hds⟩ := id hs
  have hTs : s.TypeIs (.ref sl) "slice" := ⟨os, hos, hcs⟩
  unfold getItem
  try with_reducible refine wpAny_holding ?_
  first | refine wpAny_bind (wpAny_pure ?_) | skip
  refine wpAny_bind (wpAny_sequenceKey ht.typeIs (by decide) ?_)
  refine wpAny_bind (wpAny_callSpecial?_slot (name := Str.ofString "__getitem__") ht.typeIs PyProof.Rows.slot_tuple_getitem
    (wpAny_call_entry PyProof.Rows.slot_tuple_getitem ht.typeIs entry_tuple_getitem ?_ (args_tuple_getitem _ _)))
  show wpAny _ _ (Builtin.Tuple.tupleItemsOf (.ref t) >>= _) _ _ s
  refine wpAny_bind (tupleItemsOf_ ht ?_)
  refine wpAny_bind (wpAny_typeOf hTs ?_)
  rw [if_pos (by decide)]
  refine wpAny_bind (sliceApplied_rev hs ps ?_)
  have hno : ¬ ((((items.size : Nat) : Int) - 1 == 0 && (-1 : Int) == 1 && items.size == items.size) = true) := by
    intro q
    rw [Bool.and_eq_true, Bool.and_eq_true] at q
    exact absurd (eq_of_beq q.1.2) (by decide)
  show wpAny _ _ (if (((items.size : Nat) : Int) - 1 == 0 && (-1 : Int) == 1 && items.size == items.size) = true then _ else _) _ _ s
  rw [if_neg hno, pick_rev]
  first
    | exact wpAny_bind (m := Builtin.Tuple.tupleExact _) (wpAny_newObj_type (wpAny_pure ⟨_, rfl, wpAny_pure h⟩) htake)
    | exact wpAny_bind (m := Builtin.Tuple.tupleExact _) (wpAny_newObj_type (wpAny_bind (wpAny_pure (wpAny_pure ⟨_, rfl, wpAny_pure h⟩))) htake)
    | exact wpAny_bind (wpAny_bind (m := Builtin.Tuple.tupleExact _) (wpAny_newObj_type (wpAny_pure (wpAny_pure ⟨_, rfl, wpAny_pure h⟩)) htake))
    | exact wpAny_bind (wpAny_bind (m := Builtin.Tuple.tupleExact _) (wpAny_newObj_type (wpAny_pure ⟨_, rfl, wpAny_pure h⟩) htake))
end
/-! ### xs[::-1] -/
def tRevA (K : PySem.W.Frag) (te : TE) : TE := fun σ H Q => te σ H fun x H1 => (∃ a xs, x = .ref a ∧ SqL K H1 a xs ∧ ∀ p, H1 p = none → Q (.ref p) (upd H1 p (.lst xs.reverse))) ∨ ∃ a xs, x = .ref a ∧ SqT K H1 a xs ∧ ∀ p, H1 p = none → Q (.ref p) (upd H1 p (.tup xs.reverse))
theorem pe_revA {X : Cx} {e : Expr} {te : TE} {k : Nat} {p1 p2 p3 pos : Pos} (he : PE X e te) : PE X (.Subscript e (.Slice none none (some (.UnaryOp .USub (.Constant (.int 1) k p1) p2)) p3) pos) (tRevA X.K te) := by
  refine ⟨fun pins s σ H Q I h => ?_⟩
  refine Subscript_ (thn (he.run pins s σ H _ I h) fun v s1 ⟨x, H1, I1, r1, q1⟩ => ?_)
  have hst : PO X (some (.UnaryOp .USub (.Constant (.int 1) k p1) p2)) (tPart (tUn (rU fun i => .int (-i)) (tC (.int 1)))) := po_some (pe_un un_neg pe_int)
  refine wpAny_Slice (thn (po_none.run pins s1 σ H1 (fun o H2 => o = none ∧ H2 = H1) I1 ⟨rfl, rfl⟩) fun vl s2 ⟨l, H2, I2, pl, el, e2⟩ => ?_)
  subst el e2
  refine thn (po_none.run pins s2 σ H2 (fun o H3 => o = none ∧ H3 = H2) I2 ⟨rfl, rfl⟩) fun vu s3 ⟨u, H3, I3, pu, eu, e3⟩ => ?_
  subst eu e3
  refine thn (hst.run pins s3 σ H3 (fun o H4 => o = some (-1) ∧ H4 = H3) I3 ⟨1, rfl, -1, rfl, rfl, rfl⟩) fun vs s4 ⟨o, H4, I4, ps, eo, e4⟩ => ?_
  subst eo e4
  have I5 : Inv X pins σ H4 { s4 with heap := s4.heap.push { cls := .type "slice", data := .fields #[vl, vu, vs] } } := I4.kept (t' := s4.toks) fun b ob q => Heap.get?_push_of_some _ q
  rcases q1 with ⟨a, xs, ex, hx, q⟩ | ⟨a, xs, ex, hx, q⟩
  · subst ex
    cases r1
    obtain ⟨its, r, ht, hz⟩ := I5.list hx
    have hlen := r.length
    show wpAny (model X.prog X.w) X.A (subscriptTail e (.Slice none none (some (.UnaryOp .USub (.Constant (.int 1) k p1) p2)) p3) (.ref a) (.ref s4.heap.objs.size)) (EP X pins σ Q) X.xe { s4 with heap := s4.heap.push { cls := .type "slice", data := .fields #[vl, vu, vs] } }
    refine tail_any (ops := [.ref a, .ref s4.heap.objs.size]) ht.isList.typeIs (PySem.slot_list_getitem.lookup) ?_ (by with_unfolding_all rfl)
    refine wpAny_getItem_list_slice ht.isList (Heap.IsSliceOf.new _ vl vu vs) pl pu ps (by decide) ?_ (by rw [List.size_toArray]; omega)
    rw [PySem.W.krv_pick]
    refine ⟨.ref _, _, I5.laid (t' := s4.toks) (o := .lst xs.reverse) (fun b ob q => Heap.get?_push_of_some _ q) (Nat.le_refl _) ?_, rfl, q _ (I5.hok.fresh (Nat.le_refl _))⟩
    exact ⟨by rw [List.length_reverse]; exact hz, _, 0, r.reverse, Heap.get?_push_size _ rfl⟩
  · subst ex
    cases r1
    obtain ⟨its, r, ht, hz⟩ := I5.tuple hx
    have hlen := r.length
    cases pl
    cases pu
    show wpAny (model X.prog X.w) X.A (subscriptTail e (.Slice none none (some (.UnaryOp .USub (.Constant (.int 1) k p1) p2)) p3) (.ref a) (.ref s4.heap.objs.size)) (EP X pins σ Q) X.xe { s4 with heap := s4.heap.push { cls := .type "slice", data := .fields #[.none, .none, vs] } }
    refine tail_any (ops := [.ref a, .ref s4.heap.objs.size]) ht.typeIs (PyProof.Rows.slot_tuple_getitem.lookup) ?_ (by with_unfolding_all rfl)
    refine getItem_tuple_rev ht (Heap.IsSliceOf.new _ .none .none vs) ps ?_ (by rw [List.size_toArray]; omega)
    refine ⟨.ref _, _, I5.laid (t' := s4.toks) (o := .tup xs.reverse) (fun b ob q => Heap.get?_push_of_some _ q) (Nat.le_refl _) ?_, rfl, q _ (I5.hok.fresh (Nat.le_refl _))⟩
    refine ⟨by rw [List.length_reverse]; exact hz, its.reverse, r.reverse, ?_⟩
    have z := IsTup.new { s4 with heap := s4.heap.push { cls := .type "slice", data := .fields #[.none, .none, vs] } }.heap its.reverse.toArray
    simpa using z
section
variable {X : Cx} {W : WX} {e a b c : Expr} {f fa fb fc : DE} {pos : Pos}
def rvA : D → R D
  | .lst xs => .ok (.lst xs.reverse)
  | .tup xs => .ok (.tup xs.reverse)
  | _ => .stuck
def eRevA (f : DE) : DE := fun σ => f σ >>= rvA
theorem ed_revA {k : Nat} {p1 p2 p3 pos : Pos} (he : ED X W e f) : ED X W (.Subscript e (.Slice none none (some (.UnaryOp .USub (.Constant (.int 1) k p1) p2)) p3) pos) (eRevA f) :=
  pe_imp (pe_revA he) fun σ H Q ⟨Oc, Om, σd, s, h⟩ => tD_seq s h fun d v H1 e1 r s1 h1 => by
    cases d <;> first | exact h1.elim | skip
    · rename_i xs
      obtain ⟨q, ws, rfl, k1, k2⟩ := rep_sq r
      exact .inr ⟨q, ws, rfl, Same.seqT minus_sub k1, fun p hp => h1 _ _ (e1.trans (same_upd hp)) (rep_tupNew s1.1 hp k2.rev)⟩
    · rename_i xs
      obtain ⟨q, ws, rfl, k1, k2⟩ := (show ∃ a vs, v = .ref a ∧ _ = some (HO.lst vs) ∧ RepL _ _ xs vs by unfold Rep at r; exact r)
      exact .inl ⟨q, ws, rfl, SqL.of (fz_sub k1), fun p hp => h1 _ _ (e1.trans (same_upd hp)) (rep_lstNew s1.1 hp k2.rev)⟩
end
end FF
set_option maxHeartbeats 4000000
/-! x, y = e, [..], the second list owned -/
namespace FF
open PySem PySem.Spec PyProof.Rows L2
section
variable {X : Cx} {W : WX} {a b : Expr} {fa : DE} {fl : Sd → R (List D)} {pos : Pos}
def sParO (i j : Nat) (fa : DE) (fl : Sd → R (List D)) : DS := fun σ => (fa σ).toOut σ fun d => (fl σ).toOut σ fun ds => if i < σ.length ∧ j < σ.length then .next ((σ.set i (some d)).set j (some (.ol ds))) else .stuck
theorem sd_parO {i j : Nat} {x y : Str} {px py pt : Pos} {kt k2 : Nat} {pt2 : Pos} (hc : X.calm = true) (hN : X.N.Nodup) (hi : X.N[i]? = some x) (hj : X.N[j]? = some y) (hij : i ≠ j) (hx : X.env.scope.names.lookup x = some .local) (hy : X.env.scope.names.lookup y = some .local) (ha : ED X W a fa) (hb : NDx X W b fl)
    (hw : swappedStores [.Tuple [.Name x px, .Name y py] kt pt] (.Tuple [a, b] k2 pt2) X.env = pure (some [x, y]))
    (hs1 : starEach (a :: [b]) X.env = (false, eval a X.env) :: starEach [b] X.env := by rfl) (hs2 : starEach (b :: []) X.env = (false, eval b X.env) :: starEach [] X.env := by rfl)
    (hs : swapsWithSole [.Tuple [.Name x px, .Name y py] kt pt] (.Tuple [a, b] k2 pt2) pos.line X.env = pure false := by rfl) :
    SD X W (.Assign [.Tuple [.Name x px, .Name y py] kt pt] (.Tuple [a, b] k2 pt2) pos) (sParO i j fa fl) :=
  ps_imp (ps_par hc hN hi hj hij hx hy (pa_cons ha (pa_cons hb pa_nil hs2) hs1) hw hs) fun Dn σ H ⟨Oc, Om, σd, s, h⟩ => toOut_seq s h fun d v H1 e1 r s1 h1 => by
    cases q : fl σd with
    | stuck => rw [q] at h1; exact h1.elim
    | exc c =>
      rw [q] at h1
      refine ⟨Oc, Om, σd, s1, ?_⟩
      rw [q]
      exact fun C H' hc e => h1 C σ Om H' hc (s1.same e) (.of_same e)
    | ok ds =>
      rw [q] at h1
      replace h1 : (if i < σd.length ∧ j < σd.length then Out.next ((σd.set i (some d)).set j (some (.ol ds))) else .stuck).all (bdOf X) W Oc Om H1 Dn := h1
      by_cases hl : i < σd.length ∧ j < σd.length
      case neg => rw [if_neg hl] at h1; exact h1.elim
      rw [if_pos hl] at h1
      refine ⟨Oc, Om, σd, s1, ?_⟩
      rw [q]
      exact fun p vs H' e hp hv r2 => ⟨v, .ref p, rfl, setO_next (s1.setF' hl.1 r) (by simpa using hl.2) e hp hv r2 h1⟩
end
end FF
set_option maxHeartbeats 4000000
/-! dicts whose keys are tuples -/
namespace FF
open PySem PySem.Spec PyProof.Rows L2
section
variable {B : Bd} {Oc Om : List Addr} {σd : Sd} {σ : L2.St} {H : Hp}
theorem SR.ownT {i : Nat} {ks : List (List Key)} {ds : List D} (s : SR B Oc Om σd σ H) (hi : σd[i]? = some (some (.odT ks ds))) : ∃ p vs, σ[i]? = some (some (.ref p)) ∧ H p = some (.dT (ks.zip vs)) ∧ ks.length = vs.length ∧ p ∈ Om ∧ RepL B (fz H Oc Om) ds vs ∧
    ∀ ks' ds' vs' o, upd H p o p = some (.dT (ks'.zip vs')) → ks'.length = vs'.length → RepL B (fz H Oc Om) ds' vs' → SR B Oc Om (σd.set i (some (.odT ks' ds'))) σ (upd H p o) := by
  obtain ⟨h1, fp, h2, h3, h4⟩ := s
  obtain ⟨f1, f, f2, v, e1, e2, ⟨x, rfl, e3⟩, e4⟩ := h2.focus hi
  subst e1
  unfold OR at e3
  obtain ⟨p, vs, rfl, k1, km, rfl, k2⟩ := e3
  have pm : p ∈ Om := (h4 p (by simp)).1
  refine ⟨p, vs, e2, k1, km, pm, k2, fun ks' ds' vs' o dk mu r => ?_⟩
  have em : fz (upd H p o) Oc Om = fz H Oc Om := by
    funext b
    unfold fz minus
    by_cases hb : b = p
    · subst hb; simp [pm]
    · simp [upd_ne hb]
  have nd := h3
  rw [List.nodup_append] at nd
  obtain ⟨n1, n2, n3⟩ := nd
  have n4 : p ∉ f2 := by simp at n2; exact n2.1
  have n5 : p ∉ f1 := fun z => n3 p z p (by simp) rfl
  have q := e4 (fz (upd H p o) Oc Om) (upd H p o) (some (.odT ks' ds')) (some (.ref p)) [p] (by rw [em]; exact Same.refl _) (fun a ha u z => by
    rw [upd_ne (fun e => by
      subst e
      rcases List.mem_append.mp ha with w | w
      · exact n5 w
      · exact n4 w)]
    exact z) ⟨.ref p, rfl, by
      unfold OR
      exact ⟨p, vs', rfl, dk, mu, rfl, by rw [em]; exact r⟩⟩
  rw [set_self_opt e2] at q
  refine ⟨fun a ha => ?_, _, q, h3, h4⟩
  by_cases hb : a = p
  · subst hb; rw [dk]; exact fun z => nomatch z
  · rw [upd_ne hb]; exact h1 a ha
/-- a protected dict goes to a name -/
theorem SR.setT {i : Nat} {p : Addr} {ks : List (List Key)} {ds : List D} {vs : List V} (s : SR B (p :: Oc) Om σd σ H) (hi : i < σd.length) (hD : H p = some (.dT (ks.zip vs))) (hl : ks.length = vs.length) (hc : p ∉ Oc) (ho : p ∉ Om) (r : RepL B (fz H (p :: Oc) Om) ds vs) :
    SR B Oc (p :: Om) (σd.set i (some (.odT ks ds))) (σ.set i (some (.ref p))) H := by
  obtain ⟨h1, fp, h2, h3, h4⟩ := s
  have em : minus H ((p :: Oc) ++ Om) = minus H (Oc ++ (p :: Om)) := minus_mem fun a => by
    simp only [List.mem_append, List.mem_cons]
    constructor
    · rintro ((z | z) | z)
      · exact .inr (.inl z)
      · exact .inl z
      · exact .inr (.inr z)
    · rintro (z | z | z)
      · exact .inl (.inr z)
      · exact .inl (.inl z)
      · exact .inr z
  have r' : RepL B (minus H (Oc ++ (p :: Om))) ds vs := em ▸ r
  rw [em] at h2
  obtain ⟨f1, f, f2, w, e1, _, _, e4⟩ := h2.focus (i := i) (d := σd[i]) (by simp [hi])
  subst e1
  have hpf : p ∉ f1 ++ (f ++ f2) := fun z => ho (h4 p z).1
  refine ⟨fun a ha => ?_, f1 ++ ([p] ++ f2), e4 _ H (some (.odT ks ds)) (some (.ref p)) [p] (Same.refl _) (fun _ _ _ q => q) ⟨_, rfl, ?_⟩, ?_, fun a ha => ?_⟩
  · rcases List.mem_append.mp ha with z | z
    · exact h1 a (by simp [z])
    · rcases List.mem_cons.mp z with z | z
      · rw [z, hD]
        exact fun q => nomatch q
      · exact h1 a (by simp [z])
  · unfold OR
    exact ⟨p, vs, rfl, hD, hl, rfl, r'⟩
  · have nd : (f1 ++ f2).Nodup := List.Nodup.sublist (List.Sublist.append (List.Sublist.refl _) (by simp)) h3
    have q1 : p ∉ f1 := fun z => hpf (by simp [z])
    have q2 : p ∉ f2 := fun z => hpf (by simp [z])
    rw [List.nodup_append] at nd ⊢
    obtain ⟨n1, n2, n3⟩ := nd
    refine ⟨n1, by simp [q2, n2], fun a ha b hb => ?_⟩
    rcases List.mem_append.mp hb with z | z
    · have z' : b = p := by simpa using z
      rw [z']
      exact fun e => q1 (e ▸ ha)
    · exact n3 a ha b z
  · rcases List.mem_append.mp ha with z | z
    · have := h4 a (by simp [z])
      exact ⟨by simp [this.1], fun q => this.2 (by simp [q])⟩
    · rcases List.mem_append.mp z with z | z
      · have z' : a = p := by simpa using z
        rw [z']
        exact ⟨by simp, hc⟩
      · have := h4 a (by simp [z])
        exact ⟨by simp [this.1], fun q => this.2 (by simp [q])⟩
/-- a slot gets a tuple of keys -/
theorem SR.setKt {i : Nat} {b : Addr} {ks : List Key} (s : SR B Oc Om σd σ H) (hi : i < σd.length) (h : fz H Oc Om b = some (.tup (ks.map kV))) : SR B Oc Om (σd.set i (some (.kt ks))) (σ.set i (some (.ref b))) H := by
  obtain ⟨h1, fp, h2, h3, h4⟩ := s
  obtain ⟨f1, f, f2, w, e1, _, _, e4⟩ := h2.focus (i := i) (d := σd[i]) (by simp [hi])
  subst e1
  refine ⟨h1, f1 ++ ([] ++ f2), e4 _ H (some (.kt ks)) (some (.ref b)) [] (Same.refl _) (fun _ _ _ q => q) ⟨_, rfl, ?_⟩, ?_, fun a ha => h4 a ?_⟩
  · unfold OR
    exact ⟨rfl, b, rfl, h⟩
  · refine List.Nodup.sublist ?_ h3
    exact List.Sublist.append (List.Sublist.refl _) (by simp)
  · rw [List.nil_append] at ha
    rcases List.mem_append.mp ha with z | z <;> simp [z]
theorem SR.getKt {i : Nat} {ks : List Key} (s : SR B Oc Om σd σ H) (hi : σd[i]? = some (some (.kt ks))) : ∃ b, σ[i]? = some (some (.ref b)) ∧ fz H Oc Om b = some (.tup (ks.map kV)) := by
  obtain ⟨_, fp, h2, _⟩ := s
  obtain ⟨f1, f, f2, v, _, e2, ⟨x, rfl, e3⟩, _⟩ := h2.focus hi
  unfold OR at e3
  obtain ⟨_, b, rfl, h⟩ := e3
  exact ⟨b, e2, h⟩
end
/-! ### keys -/
def keyL : List D → Option (List Key)
  | [] => some []
  | d :: ds => match keyK d, keyL ds with
    | some k, some ks => some (k :: ks)
    | _, _ => none
def keyD : Key → D
  | .inl n => .int n
  | .inr x => .str x
theorem keyL_rep {B : Bd} {G : Hp} : ∀ {ds : List D} {vs : List V} {ks : List Key}, keyL ds = some ks → RepL B G ds vs → vs = ks.map kV
  | [], vs, ks, h, r => by
    cases h
    rw [show vs = [] from r]
    rfl
  | d :: ds, vs, ks, h, r => by
    obtain ⟨v, w, rfl, r1, r2⟩ := r
    unfold keyL at h
    split at h
    · rename_i k ks' e1 e2
      cases h
      rw [keyK_rep e1 r1, keyL_rep e2 r2]
      rfl
    · cases h
theorem keyD_rep {B : Bd} {G : Hp} : ∀ ks : List Key, RepL B G (ks.map keyD) (ks.map kV)
  | [] => .nil
  | k :: ks => .cons (by cases k <;> rfl) (keyD_rep ks)
section
variable {X : Cx} {W : WX} {e a b : Expr} {f fa fb : DE} {pos : Pos} {es : List Expr} {fs : Sd → R (List D)} {fk : Sd → R (List Key)}
/-- e gives a tuple of keys that stands as such -/
def tKD (B : Bd) (W : WX) (f : Sd → R (List Key)) : TE := fun σ H Q => ∃ Oc Om σd, SR B Oc Om σd σ H ∧ (f σd).post (fun ks => ∀ b H', Same H H' → fz H' Oc Om b = some (.tup (ks.map kV)) → Q (.ref b) H') (exE B W σ H)
abbrev KX (X : Cx) (W : WX) (e : Expr) (f : Sd → R (List Key)) : Prop := PE X e (tKD (bdOf X) W f)
theorem tKD_seq {B : Bd} {Oc Om : List Addr} {σd : Sd} {σ : L2.St} {H : Hp} {β : Type} {f : Sd → R (List Key)} {k : List Key → R β} {P : β → Prop} {Q1 : VK} (s : SR B Oc Om σd σ H) (h : (f σd >>= k).post P (exE B W σ H))
    (hk : ∀ ks b H1, Same H H1 → fz H1 Oc Om b = some (.tup (ks.map kV)) → SR B Oc Om σd σ H1 → (k ks).post P (exE B W σ H1) → Q1 (.ref b) H1) : tKD B W f σ H Q1 := by
  refine ⟨Oc, Om, σd, s, R.post_imp (R.post_bind h) (fun ks _ p b H1 e r => ?_) (fun c _ q => q)⟩
  exact hk ks b H1 e r (s.same e) (R.post_imp p (fun _ _ q => q) fun c _ q => q.mono e)
def keyR (ds : List D) : R (List Key) := match keyL ds with
  | some ks => if ds.length ≤ sizeLine then .ok ks else .stuck
  | none => .stuck
def kTup (fs : Sd → R (List D)) : Sd → R (List Key) := fun σ => fs σ >>= keyR
theorem kx_tup {x1 : Nat} (h : AD X W es fs) : KX X W (.Tuple es x1 pos) (kTup fs) :=
  pe_imp (pe_tup h) fun σ H Q ⟨Oc, Om, σd, s, h⟩ => tDA_seq s h fun ds vs H1 e1 rs s1 h1 => by
    unfold keyR at h1
    cases q : keyL ds with
    | none => rw [q] at h1; exact h1.elim
    | some ks =>
      rw [q] at h1
      replace h1 : (if ds.length ≤ sizeLine then R.ok ks else .stuck).post _ _ := h1
      by_cases hl : ds.length ≤ sizeLine
      case neg => rw [if_neg hl] at h1; exact h1.elim
      rw [if_pos hl] at h1
      refine ⟨by rw [rs.length]; exact hl, fun p hp => h1 p _ (e1.trans (same_upd hp)) ?_⟩
      rw [← keyL_rep q rs]
      exact fz_new s1.1 hp
/-- the slot's own tuple -/
def kVar (i : Nat) : Sd → R (List Key) := fun σ => match σ[i]? with
  | some (some (.kt ks)) => .ok ks
  | _ => .stuck
theorem kx_var {i : Nat} (h : PE X a (tVar i)) : KX X W a (kVar i) := pe_imp h fun σ H Q ⟨Oc, Om, σd, s, h⟩ => by
  unfold kVar at h
  split at h
  · rename_i ks hx
    obtain ⟨b, k1, k2⟩ := s.getKt hx
    exact ⟨.ref b, k1, h b H (Same.refl _) k2⟩
  · exact h.elim
/-- .. as a value -/
def eVK (i : Nat) : DE := fun σ => match σ[i]? with
  | some (some (.kt ks)) => .ok (.tup (ks.map keyD))
  | _ => .stuck
theorem ed_varK {i : Nat} (h : PE X a (tVar i)) : ED X W a (eVK i) := pe_imp h fun σ H Q ⟨Oc, Om, σd, s, h⟩ => by
  unfold eVK at h
  split at h
  · rename_i ks hx
    obtain ⟨b, k1, k2⟩ := s.getKt hx
    refine ⟨.ref b, k1, h (.ref b) H (Same.refl _) ?_⟩
    unfold Rep
    exact ⟨b, _, rfl, .inl k2, keyD_rep ks⟩
  · exact h.elim
def memT (κ : List Key) : List (List Key) → Bool
  | [] => false
  | k :: ks => decide (k = κ) || memT κ ks
/-- the tuples of keys among the constants of the written part -/
def keyV : Value → Option Key
  | .int n _ => some (.inl n)
  | .str x _ => some (.inr x)
  | _ => none
def keyVs : List Value → Option (List Key)
  | [] => some []
  | v :: vs => match keyV v, keyVs vs with
    | some k, some ks => some (k :: ks)
    | _, _ => none
def ktOk (cons : List (List Key)) (K : PySem.W.Frag) : Bool := K.all fun p => match p.2 with
  | ⟨.type c, _, .seq its _, _⟩ => if c = "tuple" then (match keyVs its.toList with
    | some ks => memT ks cons
    | none => true) else true
  | _ => true
theorem keyVs_vals : ∀ {ks : List Key} {us : List Value}, Vals (ks.map kV) us → keyVs us = some ks
  | [], us, h => by
    cases h
    rfl
  | k :: ks, us, h => by
    cases h with
    | cons h1 h2 =>
      unfold keyVs
      rw [keyVs_vals h2]
      cases k with
      | inl n =>
        obtain ⟨t, e⟩ := h1
        rw [e]
        rfl
      | inr x =>
        obtain ⟨t, e⟩ := h1
        rw [e]
        rfl
theorem lookup_memA {β : Type} {a : Addr} {v : β} : ∀ {l : List (Addr × β)}, l.lookup a = some v → (a, v) ∈ l
  | (b, w) :: l, h => by
    rw [List.lookup_cons] at h
    by_cases c : a = b
    · subst c
      simp at h
      subst h
      simp
    · have c' : (a == b) = false := by simpa using c
      rw [c'] at h
      exact List.mem_cons_of_mem _ (lookup_memA h)
def kAny (cons : List (List Key)) (f : DE) : Sd → R (List Key) := fun σ => f σ >>= fun d => match d with
  | .tup ds => (match keyL ds with
    | some ks => if memT ks cons = true then .stuck else .ok ks
    | none => .stuck)
  | _ => .stuck
theorem kx_any {cons : List (List Key)} (hK : ktOk cons X.K = true) (h : ED X W e f) : KX X W e (kAny cons f) := pe_imp h fun σ H Q ⟨Oc, Om, σd, s, h⟩ => tD_seq s h fun d v H1 e1 r s1 h1 => by
  cases d <;> first | exact h1.elim | skip
  rename_i ds
  cases q : keyL ds with
  | none => simp only [q] at h1; exact h1.elim
  | some ks =>
    simp only [q] at h1
    by_cases hc : memT ks cons = true
    · rw [if_pos hc] at h1; exact h1.elim
    · rw [if_neg hc] at h1
      unfold Rep at r
      obtain ⟨a, vs, rfl, t, rl⟩ := r
      have ev := keyL_rep q rl
      subst ev
      rcases t with t | ⟨o, its, n, hk, ho, hd, hz, hv⟩
      · exact h1 a H1 e1 t
      · exfalso
        apply hc
        have m := lookup_memA hk
        unfold ktOk at hK
        rw [List.all_eq_true] at hK
        have z := hK _ m
        obtain ⟨cl, dc, da, sl⟩ := o
        simp only at ho hd
        subst ho hd
        simp only [if_true] at z
        rw [keyVs_vals hv] at z
        exact z
end
end FF
set_option maxHeartbeats 4000000
/-! dicts whose keys are tuples: made, asked, read, stored into -/
namespace FF
open PySem PySem.Spec PyProof.Rows L2
def getT : List (List Key) → List D → List Key → Option D
  | k :: ks, d :: ds, κ => if k = κ then some d else getT ks ds κ
  | _, _, _ => none
theorem getT_val {B : Bd} {G : Hp} {κ : List Key} {d : D} : ∀ {kk : List (List Key)} {ds : List D} {vs : List V}, RepL B G ds vs → getT kk ds κ = some d → ∃ v, valV (kk.zip vs) κ = some v ∧ Rep B G d v
  | [], ds, vs, _, e => by cases ds <;> simp [getT] at e
  | k :: kk, [], vs, _, e => by simp [getT] at e
  | k :: kk, d0 :: ds, _, r, e => by
    obtain ⟨v, w, rfl, h1, h2⟩ := r
    simp only [getT] at e
    by_cases c : k = κ
    · rw [if_pos c] at e
      cases e
      exact ⟨v, valV_pos (p := (k, v)) c, h1⟩
    · rw [if_neg c] at e
      obtain ⟨v', e1, e2⟩ := getT_val (kk := kk) h2 e
      exact ⟨v', by rw [List.zip_cons_cons, valV_neg (p := (k, v)) c]; exact e1, e2⟩
theorem hasT_val (κ : List Key) : ∀ {kk : List (List Key)} {vs : List V}, kk.length = vs.length → (valV (kk.zip vs) κ).isSome = memT κ kk
  | [], _, _ => rfl
  | k :: kk, [], h => by simp at h
  | k :: kk, v :: vs, h => by
    rw [List.zip_cons_cons]
    by_cases c : k = κ
    · rw [valV_pos (p := (k, v)) c]
      simp [memT, c]
    · rw [valV_neg (p := (k, v)) c, hasT_val κ (by simpa using h)]
      simp [memT, c]
def repT {α : Type} (κ : List Key) (d : α) : List (List Key) → List α → List α
  | k :: ks, x :: xs => (if k = κ then d else x) :: repT κ d ks xs
  | _, xs => xs
theorem hasT_any (κ : List Key) : ∀ (kk : List (List Key)) (vs : List V), kk.length = vs.length → ((kk.zip vs).any fun kv => decide (kv.1 = κ)) = memT κ kk
  | [], _, _ => rfl
  | k :: kk, [], h => by simp at h
  | k :: kk, v :: vs, h => by
    rw [List.zip_cons_cons, List.any_cons, hasT_any κ kk vs (by simpa using h)]
    rfl
theorem repT_zip (κ : List Key) (v : V) : ∀ (kk : List (List Key)) (vs : List V), kk.length = vs.length → ((kk.zip vs).map fun kv => if kv.1 = κ then (kv.1, v) else kv) = kk.zip (repT κ v kk vs)
  | [], _, _ => rfl
  | k :: kk, [], h => by simp at h
  | k :: kk, x :: vs, h => by
    rw [List.zip_cons_cons, List.map_cons, repT_zip κ v kk vs (by simpa using h)]
    by_cases c : k = κ
    · simp [repT, c]
    · simp [repT, c]
theorem repT_len {α : Type} (κ : List Key) (d : α) : ∀ (ks : List (List Key)) (xs : List α), (repT κ d ks xs).length = xs.length
  | k :: ks, x :: xs => by simp [repT, repT_len κ d ks xs]
  | [], xs => by cases xs <;> rfl
  | k :: ks, [] => rfl
theorem repT_rep {B : Bd} {G : Hp} {κ : List Key} {d : D} {v : V} (r : Rep B G d v) : ∀ (kk : List (List Key)) {ds : List D} {vs : List V}, RepL B G ds vs → RepL B G (repT κ d kk ds) (repT κ v kk vs)
  | [], ds, vs, h => by cases ds <;> cases vs <;> exact h
  | k :: kk, [], vs, h => by
    rw [show vs = [] from h]
    rfl
  | k :: kk, d0 :: ds, _, h => by
    obtain ⟨x, w, rfl, h1, h2⟩ := h
    refine ⟨_, _, rfl, ?_, repT_rep r kk h2⟩
    by_cases c : k = κ
    · simp only [if_pos c]; exact r
    · simp only [if_neg c]; exact h1
section
variable {X : Cx} {W : WX} {a b o e vx : Expr} {f fv : DE} {pos pos' : Pos} {fk : Sd → R (List Key)}
/-- x = {} -/
def sNewT (i : Nat) : DS := fun σ => if i < σ.length then .next (σ.set i (some (.odT [] []))) else .stuck
theorem sd_newT {i : Nat} {x : Str} {dpos : Pos} (hN : X.N.Nodup) (hi : X.N[i]? = some x) (hx : Loc X.env.scope x)
    (hs : swapsWith (.Dict [] [] dpos) (some (.Name x pos')) pos.line X.env = pure false := by rfl)
    (hf : X.fn x = true ∨ X.env.scope.names.lookup x = some .local := by first | exact .inl rfl | exact .inr rfl | assumption) : SD X W (.Assign [.Name x pos'] (.Dict [] [] dpos) pos) (sNewT i) :=
  ps_imp (ps_set hN hi hx pe_dnewT hs hf) fun Dn σ H ⟨Oc, Om, σd, s, g⟩ => by
    unfold sNewT at g
    by_cases hl : i < σd.length
    case neg => rw [if_neg hl] at g; exact g.elim
    rw [if_pos hl] at g
    intro p hp
    have e0 : Same H (upd H p (.dT [])) := same_upd hp
    have sp : SR (bdOf X) (p :: Oc) Om σd σ (upd H p (.dT [])) := s.protect e0 hp (by rw [upd_same]; exact fun z => nomatch z)
    have nd := s.ndO hp
    exact g _ (p :: Om) _ (sp.setT hl upd_same rfl (fun z => nd (by simp [z])) (fun z => nd (by simp [z])) .nil) (ext_new e0 hp)
/-- k in x -/
def odTs : Option (Option D) → (List (List Key) → List D → R D) → R D
  | some (some (.odT ks ds)), k => k ks ds
  | _, _ => .stuck
def eInT (neg : Bool) (fk : Sd → R (List Key)) (i : Nat) : DE := fun σ => fk σ >>= fun κ => odTs σ[i]? fun ks _ => .ok (.bl (neg != memT κ ks))
theorem odTs_post {o : Option (Option D)} {k : List (List Key) → List D → R D} {P : D → Prop} {E : Str → Prop} (h : (odTs o k).post P E) : ∃ ks ds, o = some (some (.odT ks ds)) ∧ (k ks ds).post P E := by
  unfold odTs at h
  split at h
  · exact ⟨_, _, rfl, h⟩
  · exact h.elim
theorem inT_read {i : Nat} {σ : L2.St} {H : Hp} {Q : VK} (h : tD (bdOf X) W (eInT false fk i) σ H Q) : tDIn (tKD (bdOf X) W fk) (tVar i) σ H Q := by
  obtain ⟨Oc, Om, σd, s, h⟩ := h
  refine tKD_seq s h fun ks t H1 e1 ht s1 h1 => ?_
  obtain ⟨kks, ds, hx, h2⟩ := odTs_post h1
  obtain ⟨p, vs, k1, k2, k3, _, _, _⟩ := s1.ownT hx
  refine ⟨.ref p, k1, p, valV (kks.zip vs) ks, rfl, .inr ⟨kks.zip vs, ks, t, .inl k2, rfl, fz_sub ht, rfl⟩, ?_⟩
  rw [hasT_val ks k3]
  have e : (false != memT ks kks) = memT ks kks := by cases memT ks kks <;> rfl
  rw [← e]
  exact h2 _ H1 e1 rfl
theorem notInT_read {i : Nat} {σ : L2.St} {H : Hp} {Q : VK} (h : tD (bdOf X) W (eInT true fk i) σ H Q) : tDNotIn (tKD (bdOf X) W fk) (tVar i) σ H Q := by
  obtain ⟨Oc, Om, σd, s, h⟩ := h
  refine tKD_seq s h fun ks t H1 e1 ht s1 h1 => ?_
  obtain ⟨kks, ds, hx, h2⟩ := odTs_post h1
  obtain ⟨p, vs, k1, k2, k3, _, _, _⟩ := s1.ownT hx
  refine ⟨.ref p, k1, p, valV (kks.zip vs) ks, rfl, .inr ⟨kks.zip vs, ks, t, .inl k2, rfl, fz_sub ht, rfl⟩, ?_⟩
  rw [hasT_val ks k3]
  have e : (true != memT ks kks) = !memT ks kks := by cases memT ks kks <;> rfl
  rw [← e]
  exact h2 _ H1 e1 rfl
theorem ed_inT {i : Nat} (hu : Rm X) (hk : KX X W a fk) (ho : PE X b (tVar i)) (hm : behindInMarks .In b = false := by rfl) : ED X W (.Compare a [.In] [b] pos) (eInT false fk i) :=
  pe_imp (pe_cmp (pc_din (by have : X.A.units + 200 < cLine := hu; omega) hk ho) hm) fun _ _ _ h => inT_read h
theorem ed_notInT {i : Nat} (hu : Rm X) (hk : KX X W a fk) (ho : PE X b (tVar i)) (hm : behindInMarks .NotIn b = false := by rfl) : ED X W (.Compare a [.NotIn] [b] pos) (eInT true fk i) :=
  pe_imp (pe_cmp (pc_dnotin (by have : X.A.units + 200 < cLine := hu; omega) hk ho) hm) fun _ _ _ h => notInT_read h
theorem td_inT {i : Nat} (hu : Rm X) (hk : KX X W a fk) (ho : PE X b (tVar i)) (hm : behindInMarks .In b = false := by rfl) : TD X W (.Compare a [.In] [b] pos) (tB1 (eInT false fk i)) :=
  pt_imp (pt_cmp (pc_din (by have : X.A.units + 200 < cLine := hu; omega) hk ho) hm) fun _ _ _ h => asB_read (fun _ _ _ h => inT_read h) h
theorem td_notInT {i : Nat} (hu : Rm X) (hk : KX X W a fk) (ho : PE X b (tVar i)) (hm : behindInMarks .NotIn b = false := by rfl) : TD X W (.Compare a [.NotIn] [b] pos) (tB1 (eInT true fk i)) :=
  pt_imp (pt_cmp (pc_dnotin (by have : X.A.units + 200 < cLine := hu; omega) hk ho) hm) fun _ _ _ h => asB_read (fun _ _ _ h => notInT_read h) h
/-- x[k] -/
def eGetT (i : Nat) (fk : Sd → R (List Key)) : DE := fun σ => odTs σ[i]? fun ks ds => fk σ >>= fun κ => ofO (getT ks ds κ)
theorem ed_getT {i : Nat} (hu : Rm X) (ho : PE X a (tVar i)) (hk : KX X W b fk) (hs : NoSl b) : ED X W (.Subscript a b pos) (eGetT i fk) := pe_imp (pe_dget (by have : X.A.units + 200 < cLine := hu; omega) ho hk hs) fun σ H Q ⟨Oc, Om, σd, s, h⟩ => by
  unfold eGetT odTs at h
  split at h
  · rename_i kks ds hx
    obtain ⟨p, vs, k1, _, _, _, _, _⟩ := s.ownT hx
    refine ⟨.ref p, k1, tKD_seq s h fun ks t H1 e1 ht s1 h1 => ?_⟩
    obtain ⟨p', vs', k1', k2, k3, _, rl, _⟩ := s1.ownT hx
    rw [k1] at k1'
    cases k1'
    obtain ⟨d, hd, q⟩ := ofO_post h1
    obtain ⟨v, v1, v2⟩ := getT_val rl hd
    exact ⟨p, v, rfl, .inr ⟨kks.zip vs', ks, t, .inl k2, rfl, fz_sub ht, v1.symm⟩, q _ H1 e1 v2⟩
  · exact h.elim
/-- x[k] = v -/
def odTo : Option (Option D) → (List (List Key) → List D → Out) → Out
  | some (some (.odT ks ds)), k => k ks ds
  | _, _ => .stuck
def sPutT (i : Nat) (fk : Sd → R (List Key)) (fv : DE) : DS := fun σ => (fv σ).toOut σ fun d => odTo σ[i]? fun ks ds => (fk σ).toOut σ fun κ =>
  if ks.length < sizeLine then .next (σ.set i (some (.odT (if memT κ ks = true then ks else ks ++ [κ]) (if memT κ ks = true then repT κ d ks ds else ds ++ [d])))) else .stuck
theorem sd_putT {i : Nat} (hu : Rm X) (ho : PE X o (tVar i)) (hk : KX X W e fk) (hv : ED X W vx fv) (hs : swapsWith vx (some (.Subscript o e pos')) pos.line X.env = pure false := by rfl) : SD X W (.Assign [.Subscript o e pos'] vx pos) (sPutT i fk fv) :=
  ps_imp (ps_dput (by have : X.A.units + 200 < cLine := hu; omega) ho hk hv hs) fun Dn σ H ⟨Oc, Om, σd, s, h⟩ => by
    refine toOut_seq s h fun d v H1 e1 r s1 h1 => ?_
    unfold odTo at h1
    split at h1
    · rename_i ks ds hx
      obtain ⟨p, vs, k1, _, _, _, _, _⟩ := s1.ownT hx
      refine ⟨.ref p, k1, ?_⟩
      cases q : fk σd with
      | stuck => rw [q] at h1; exact h1.elim
      | exc c =>
        rw [q] at h1
        refine ⟨Oc, Om, σd, s1, ?_⟩
        rw [q]
        exact fun C H' hc e => h1 C σ Om H' hc (s1.same e) (.of_same e)
      | ok κ =>
        rw [q] at h1
        refine ⟨Oc, Om, σd, s1, ?_⟩
        rw [q]
        intro t H2 e2 ht
        have s2 := s1.same e2
        obtain ⟨p', vs', k1', k2, k3, pm, rl, wr⟩ := s2.ownT hx
        rw [k1] at k1'
        cases k1'
        replace h1 : (if ks.length < sizeLine then Out.next (σd.set i (some (.odT (if memT κ ks = true then ks else ks ++ [κ]) (if memT κ ks = true then repT κ d ks ds else ds ++ [d])))) else .stuck).all (bdOf X) W Oc Om H1 Dn := h1
        by_cases hc : ks.length < sizeLine
        case neg => rw [if_neg hc] at h1; exact h1.elim
        rw [if_pos hc] at h1
        have rv : Rep (bdOf X) (fz H2 Oc Om) d v := r.mono (same_minus e2)
        have hlen : (ks.zip vs').length < sizeLine := by
          rw [List.length_zip, k3, Nat.min_self, ← k3]
          exact hc
        refine ⟨p, upd H2 p (.dT (putK (ks.zip vs') κ v)), rfl, .inr ⟨ks.zip vs', κ, t, k2, rfl, fz_sub ht, hlen, rfl⟩, ?_⟩
        have x2 : ∀ {o : HO}, Ext Om H1 Om (upd H2 p o) := fun {o} => (Ext.of_same e2).trans (ext_w pm)
        by_cases hh : memT κ ks = true
        · rw [if_pos hh, if_pos hh] at h1
          have e3 : putK (ks.zip vs') κ v = ks.zip (repT κ v ks vs') := by
            unfold putK
            rw [hasT_any κ ks vs' k3, if_pos hh, repT_zip κ v ks vs' k3]
          rw [e3]
          exact h1 σ Om _ (wr _ _ (repT κ v ks vs') _ upd_same (by rw [repT_len]; exact k3) (repT_rep rv ks rl)) x2
        · rw [if_neg hh, if_neg hh] at h1
          have e3 : putK (ks.zip vs') κ v = (ks ++ [κ]).zip (vs' ++ [v]) := by
            unfold putK
            rw [hasT_any κ ks vs' k3, if_neg hh, List.zip_append k3]
            rfl
          rw [e3]
          exact h1 σ Om _ (wr _ _ (vs' ++ [v]) _ upd_same (by simp [k3]) (rl.append (.cons rv .nil))) x2
    · exact h1.elim
/-- x = (a, b), a tuple of keys -/
def sSetK (i : Nat) (fk : Sd → R (List Key)) : DS := fun σ => (fk σ).toOut σ fun ks => if i < σ.length then .next (σ.set i (some (.kt ks))) else .stuck
theorem sd_setK {i : Nat} {x : Str} (hN : X.N.Nodup) (hi : X.N[i]? = some x) (hx : Loc X.env.scope x) (he : KX X W e fk) (hs : swapsWith e (some (.Name x pos')) pos.line X.env = pure false := by rfl)
    (hf : X.fn x = true ∨ X.env.scope.names.lookup x = some .local := by first | exact .inl rfl | exact .inr rfl | assumption) : SD X W (.Assign [.Name x pos'] e pos) (sSetK i fk) :=
  ps_imp (ps_set hN hi hx he hs hf) fun Dn σ H ⟨Oc, Om, σd, s, h⟩ => by
    unfold sSetK at h
    cases q : fk σd with
    | stuck => rw [q] at h; exact h.elim
    | exc c =>
      rw [q] at h
      refine ⟨Oc, Om, σd, s, ?_⟩
      rw [q]
      exact fun C H' hc e => h C σ Om H' hc (s.same e) (.of_same e)
    | ok ks =>
      rw [q] at h
      refine ⟨Oc, Om, σd, s, ?_⟩
      rw [q]
      intro b H' e hb
      replace h : (if i < σd.length then Out.next (σd.set i (some (.kt ks))) else .stuck).all (bdOf X) W Oc Om H Dn := h
      by_cases hl : i < σd.length
      case neg => rw [if_neg hl] at h; exact h.elim
      rw [if_pos hl] at h
      exact h _ Om H' ((s.same e).setKt hl hb) (.of_same e)
/-- len(x) -/
def eLenT (i : Nat) : DE := fun σ => odTs σ[i]? fun ks _ => .ok (.int ks.length)
end
end FF
set_option maxHeartbeats 4000000
/-! len of a dict whose keys are tuples -/
namespace FF
open PySem PySem.Spec PyProof.Rows L2 PySem.Calls
def RawD (h : Heap) (d : Addr) (es : Array DictEntry) (ep : Nat) : Prop := ∃ o, h.get? d = some o ∧ o.ExactDict ∧ o.data = .dict es ep
theorem RawD.typeIs {s : Shared} {d : Addr} {es : Array DictEntry} {ep : Nat} (x : RawD s.heap d es ep) : s.TypeIs (.ref d) "dict" := let ⟨o, ho, hc, _⟩ := x; ⟨o, ho, hc.1⟩
section
variable {prog : Program} {w : World} {A : Around} {E : Value → Shared → Prop} {s : Shared}
theorem meetsLenRaw {d : Addr} {es : Array DictEntry} {ep : Nat} (hd : (d == sysModules) = false) :
    MeetsIn prog w (Builtin.«dict.__len__» ⟨[.ref d], []⟩) (fun _ R s => RawD s.heap d es ep ∧ R (.ok (.ret (.int es.size s.toks))) { s with toks := s.toks + 1 }) :=
  .of_wp fun A R s ⟨hm, h⟩ => by
    obtain ⟨o, ho, hc, hdat⟩ := hm
    show wpAny _ _ (dictSize d >>= _) _ _ s
    unfold dictSize
    refine wpAny_bind (wpAny_bind (wpAny_dictEntries ho hdat (wpAny_pure ?_)))
    show wpAny _ _ (Builtin.Dict.pendingCount d >>= _) _ _ s
    refine wpAny_bind (wpAny_pendingCount_other hd ?_)
    refine wpAny_ret_mkInt ?_
    rw [Nat.add_zero]
    exact h
theorem call_len_raw {d : Addr} {es : Array DictEntry} {ep : Nat} {Q : Value → Shared → Prop} (hd : (d == sysModules) = false) (hm : RawD s.heap d es ep) (hfit : (es.size : Int) < 2 ^ 63)
    (h : Q (.int es.size (s.toks + 1)) { s with toks := s.toks + 1 + 1 }) : wpAny (model prog w) A (call (.builtin "len") [.ref d]) Q E s := by
  refine Calls.call_function_entry kind_len plain_len entry_len (args_len1 _) ?_
  unfold Builtin.«len»
  refine wpAny_bind (m := oneArg "len" _) (wpAny_pure ?_)
  refine wpAny_bind (m := callSpecial? (.ref d) (Str.ofString "__len__")) (wpAny_callSpecial?_slot (name := Str.ofString "__len__") hm.typeIs F.slot_dict_len
    (call_meetsIn F.slot_dict_len hm.typeIs F.entry_dict_len (F.args_dict_len_1 _) (meetsLenRaw (es := es) (ep := ep) hd) ⟨hm, ?_⟩))
  show wpAny _ _ _ _ _ { s with toks := s.toks + 1 }
  refine wpAny_bind (wpAny_holding (wpAny_pure ?_))
  refine wpAny_bind (wpAny_letGo ?_)
  show wpAny _ _ (if ((es.size : Nat) : Int) < 0 then _ else _) _ _ _
  rw [if_neg (by omega)]
  show wpAny _ _ (if ((es.size : Nat) : Int) ≥ 2 ^ 63 then _ else _) _ _ _
  rw [if_neg (by omega)]
  exact wpAny_bind (wpAny_mkInt (wpAny_pure ⟨_, rfl, h⟩))
end
theorem KT.length {H : Hp} {kvs : List (List Key × V)} {xs : List (List Key × Addr × Value)} (r : KT H kvs xs) : kvs.length = xs.length := Paired.length r
section
variable {X : Cx} {W : WX} {a : Expr} {pos p : Pos}
theorem call_lenT : CallR X (.builtin "len") (fun xs H Q => ∃ a kvs, xs = [V.ref a] ∧ H a = some (.dT kvs) ∧ Q (.int kvs.length) H) := by
  intro pins s σ H xs us Q I r h
  obtain ⟨a, kvs, rfl, ha, q⟩ := h
  obtain ⟨u, rfl, ru⟩ := vals1 r
  cases ru
  obtain ⟨z, hd, xs, rel, o, es, ep, h1, h2, h3, h4, h5, h6⟩ := dt_of I.hok ha
  have e : es.size = kvs.length := by
    rw [KT.length rel, ← Array.length_toList, h4, List.length_map]
  have z' : es.size ≤ sizeLine := by rw [e]; exact z
  refine call_len_raw hd ⟨o, h1, h2, h3⟩ (by rw [sizeLine_eq] at z'; omega) ?_
  rw [e]
  exact ⟨.int kvs.length, H, I.tok _, ⟨_, rfl⟩, q⟩
/-- len(x) -/
theorem ed_lenT {i : Nat} (hg : Gl X "len") (hm : X.mg "len" = none) (ho : PE X a (tVar i)) (he : starEach [a] X.env = (false, eval a X.env) :: starEach [] X.env := by rfl) (hpl : (backTo pos (starEach [] X.env)).any (·.1) = false := by rfl) :
    ED X W (.Call (.Name "len" p) [a] [] pos) (eLenT i) :=
  pe_imp (pe_callB call_lenT hg hm bt_len (pa_cons ho pa_nil he) (by decide) (by decide) he hpl) fun σ H Q ⟨Oc, Om, σd, s, h⟩ => by
    obtain ⟨kks, ds, hx, h2⟩ := odTs_post h
    obtain ⟨q, vs, k1, k2, k3, _, _, _⟩ := s.ownT hx
    refine ⟨.ref q, k1, q, kks.zip vs, rfl, k2, ?_⟩
    have e : (kks.zip vs).length = kks.length := by rw [List.length_zip, k3, Nat.min_self]
    rw [e]
    exact h2 _ H (Same.refl _) rfl
end
end FF
set_option maxHeartbeats 4000000
/-! x, y = e, [..], the second list owned, names that comprehensions see -/
namespace FF
open PySem PySem.Spec PyProof.Rows L2
section
variable {X : Cx} {W : WX} {a b : Expr} {fa : DE} {fl : Sd → R (List D)} {pos : Pos}
theorem sd_parC {i j : Nat} {x y : Str} {px py pt : Pos} {kt k2 : Nat} {pt2 : Pos} (ha : ED X W a fa) (hb : NDx X W b fl) (hg : PG X (.Tuple [.Name x px, .Name y py] kt pt) (gTup X.K 2 (gCons (gName i) (gCons (gName j) gNil))))
    (hs : swapsWithSole [.Tuple [.Name x px, .Name y py] kt pt] (.Tuple [a, b] k2 pt2) pos.line X.env = pure false := by rfl) (hw : swappedStores [.Tuple [.Name x px, .Name y py] kt pt] (.Tuple [a, b] k2 pt2) X.env = pure none := by rfl)
    (h1 : (assignEach [.Tuple [.Name x px, .Name y py] kt pt] X.env).map (·.2) = [assign (.Tuple [.Name x px, .Name y py] kt pt) X.env] := by rfl)
    (hs1 : starEach (a :: [b]) X.env = (false, eval a X.env) :: starEach [b] X.env := by rfl) (hs2 : starEach (b :: []) X.env = (false, eval b X.env) :: starEach [] X.env := by rfl) :
    SD X W (.Assign [.Tuple [.Name x px, .Name y py] kt pt] (.Tuple [a, b] k2 pt2) pos) (sParO i j fa fl) :=
  ps_imp (ps_asg (pe_tup (pa_cons ha (pa_cons hb pa_nil hs2) hs1)) hg hs hw h1) fun Dn σ H ⟨Oc, Om, σd, s, h⟩ => toOut_seq s h fun d v H1 e1 r s1 h1 => by
    cases q : fl σd with
    | stuck => rw [q] at h1; exact h1.elim
    | exc c =>
      rw [q] at h1
      refine ⟨Oc, Om, σd, s1, ?_⟩
      rw [q]
      exact fun C H' hc e => h1 C σ Om H' hc (s1.same e) (.of_same e)
    | ok ds =>
      rw [q] at h1
      replace h1 : (if i < σd.length ∧ j < σd.length then Out.next ((σd.set i (some d)).set j (some (.ol ds))) else .stuck).all (bdOf X) W Oc Om H1 Dn := h1
      by_cases hl : i < σd.length ∧ j < σd.length
      case neg => rw [if_neg hl] at h1; exact h1.elim
      rw [if_pos hl] at h1
      refine ⟨Oc, Om, σd, s1, ?_⟩
      rw [q]
      intro p vs H' e hp hv r2
      refine ⟨by rw [sizeLine_eq]; show 2 ≤ 16777216; omega, fun t ht => ⟨t, _, rfl, .inl (.inl upd_same), rfl, v, _, rfl, .ref p, _, rfl, rfl, ?_⟩⟩
      have hpt : p ≠ t := fun z => by rw [z, ht] at hv; cases hv
      have e2 : Same H' (upd H' t (.tup [v, .ref p])) := same_upd ht
      exact setO_next (s1.setF' hl.1 r) (by simpa using hl.2) (e.trans e2) hp (by rw [upd_ne hpt]; exact hv) (r2.mono (same_minus e2)) h1
end
end FF
set_option maxHeartbeats 4000000
/-! sorted of whole numbers, any number of them -/
namespace FF
open PySem PySem.Spec PyProof.Rows L2
section
variable {X : Cx} {W : WX} {a : Expr} {fs : Sd → R (List D)} {pos p : Pos}
def sortI : List D → R D
  | [.lst ds] => match FF.intsOf ds with
    | some ns => .ok (.lst ((sortN ns).map .int))
    | none => .stuck
  | _ => .stuck
theorem sem_sortedI : SemL (bdOf X) (rSortedI X.K) sortI := by
  intro Oc Om H xs us Q hO rs h
  rcases xs with _ | ⟨x1, _ | ⟨x2, rr⟩⟩
  · exact h.elim
  · cases x1 with
    | lst ds =>
      obtain ⟨u, rfl, r⟩ := repl1 rs
      obtain ⟨a, vs, rfl, h1, h2⟩ := (show ∃ a vs, u = .ref a ∧ _ = some (HO.lst vs) ∧ RepL _ _ ds vs by unfold Rep at r; exact r)
      cases q : FF.intsOf ds with
      | none =>
        have h3 : ((match FF.intsOf ds with
          | some ns => R.ok (D.lst ((sortN ns).map .int))
          | none => R.stuck) : R D).post _ _ := h
        rw [q] at h3
        exact h3.elim
      | some ns =>
        have h3 : ((match FF.intsOf ds with
          | some ns => R.ok (D.lst ((sortN ns).map .int))
          | none => R.stuck) : R D).post (fun d => ∀ w H', Same H H' → Rep (bdOf X) (fz H' Oc Om) d w → Q w H') (fun _ => False) := h
        rw [q] at h3
        have h4 : (R.ok (D.lst ((sortN ns).map .int)) : R D).post (fun d => ∀ w H', Same H H' → Rep (bdOf X) (fz H' Oc Om) d w → Q w H') (fun _ => False) := h3
        have e := RepL.intsOf h2 q
        subst e
        refine ⟨a, ns, rfl, SqL.of (fz_sub h1), fun ns' p hp hs hn => ?_⟩
        have e2 : ns' = sortN ns := sorted_uniq hs (sortN_rise ns) (hp.trans (sortN_perm ns).symm)
        subst e2
        exact h4 _ _ (same_upd hn) (by
          unfold Rep
          exact ⟨p, _, rfl, fz_new hO hn, repl_ints _⟩)
    | _ => exact h.elim
  · cases x1 <;> exact h.elim
theorem eb_sortedI (hm : X.mg "sorted" = none) (hg : Gl X "sorted") (ha : AD X W [a] fs) (he : starEach [a] X.env = (false, eval a X.env) :: starEach [] X.env := by rfl) : ED X W (.Call (.Name "sorted" p) [a] [] pos) (eOL sortI fs) := ed_callB cr_sortedI sem_sortedI hg hm boot_sorted ha (he := he) (hpl := by first | rfl | (simp [he]; done))
end
end FF
set_option maxHeartbeats 4000000
/-! x.insert(i, e); str(n); int(text) -/
namespace FF
open PySem PySem.Spec PyProof.Rows L2
section
variable {X : Cx} {W : WX} {e a b : Expr} {f fa fb : DE} {pos p : Pos} {fs : Sd → R (List D)}
/-- x.insert(a, b) -/
def insK (i : Nat) (σ : Sd) (xs : List D) (k d : D) : Out := match k with
  | .int n => if 0 ≤ n ∧ n.natAbs < 1073741824 ∧ xs.length < sizeLine then .next (σ.set i (some (.ol (xs.take n.toNat ++ [d] ++ xs.drop n.toNat)))) else .stuck
  | _ => .stuck
def sIns (i : Nat) (fa fb : DE) : DS := fun σ => olAt i σ fun xs => (fa σ).toOut σ fun k => (fb σ).toOut σ fun d => insK i σ xs k d
theorem sd_ins {o : Expr} {i : Nat} {apos cpos : Pos} (ho : PE X o (tVar i)) (ha : ED X W a fa) (hb : ED X W b fb)
    (hbase : attributeBase o "insert" X.env (eval o X.env) = eval o X.env := by rfl)
    (hfew : ((backTo cpos (starEach (a :: [b]) X.env)).all (fun x => !x.1) && (backToKw cpos (keywordEach [] X.env)).all (fun x => x.1.isSome)
      && decide ((a :: ([b] : List Expr)).length + ([] : List Keyword).length + (if ([] : List Keyword).isEmpty then 0 else 1) < 30)) = true := by rfl)
    (hline : (apos.endLine == cpos.line) = true := by rfl) (hs : starEach (a :: [b]) X.env = (false, eval a X.env) :: starEach [b] X.env := by rfl) (hs2 : starEach (b :: []) X.env = (false, eval b X.env) :: starEach [] X.env := by rfl) (hplain : (backTo cpos (starEach [b] X.env)).any (·.1) = false := by rfl)
    (hsw : swapsWith (.Call (.Attribute o "insert" apos) [a, b] [] cpos) none pos.line X.env = pure false := by rfl) :
    SD X W (.Expr (.Call (.Attribute o "insert" apos) [a, b] [] cpos) pos) (sIns i fa fb) :=
  ps_imp (ps_expr (pe_bm PySem.F.plainAttrs_list PySem.F.slot_list_insert PySem.F.type_list_insert mt_insert ho (pa_cons ha (pa_cons hb pa_nil hs2) hs) hbase hfew hline hs hplain) hsw) fun Dn σ H ⟨Oc, Om, σd, s, h⟩ => by
    obtain ⟨xs, hx, h⟩ := olAt_post h
    obtain ⟨p, vs, k1, k2, k3, k4, k5⟩ := s.own hx
    refine ⟨.ref p, k1, .inl ⟨rfl, _, SqL.of k2⟩, ?_⟩
    refine toOut_seq s h fun k v H1 e1 r s1 h1 => toOut_seq s1 h1 fun d w H2 e2 r2 s2 h2 => ?_
    obtain ⟨p', vs', k1', k2', k3', k4', k5'⟩ := s2.own hx
    rw [k1] at k1'
    cases k1'
    cases k <;> first | exact h2.elim | skip
    rename_i n
    have hv : v = .int n := r
    subst hv
    replace h2 : (if 0 ≤ n ∧ n.natAbs < 1073741824 ∧ xs.length < sizeLine then Out.next (σd.set i (some (.ol (xs.take n.toNat ++ [d] ++ xs.drop n.toNat)))) else .stuck).all (bdOf X) W Oc Om H2 Dn := h2
    by_cases hc : 0 ≤ n ∧ n.natAbs < 1073741824 ∧ xs.length < sizeLine
    case neg => rw [if_neg hc] at h2; exact h2.elim
    rw [if_pos hc] at h2
    refine ⟨p, vs', n, w, rfl, rfl, k2', by rw [k4'.length]; exact hc.2.2, hc.1, by omega, h2 σ Om _ (k5' _ _ (((k4'.take n.toNat).append (.cons r2 .nil)).append (k4'.drop n.toNat))) (ext_w k3)⟩
/-- str(n) -/
def strD : List D → R D
  | [.int i] => if i.natAbs < 1024 then .ok (.str (toString i)) else .stuck
  | _ => .stuck
theorem sem_str : SemL (bdOf X) (fun xs H Q => ∃ i : Int, xs = [.int i] ∧ i.natAbs.log2 < 1920 ∧ Q (.str (toString i)) H) strD := by
  intro Oc Om H xs us Q hO rs h
  rcases xs with _ | ⟨x1, _ | ⟨x2, rr⟩⟩
  · exact h.elim
  · cases x1 with
    | int i =>
      obtain ⟨u, rfl, r⟩ := repl1 rs
      cases r
      replace h : (if i.natAbs < 1024 then R.ok (D.str (toString i)) else .stuck : R D).post _ _ := h
      by_cases c : i.natAbs < 1024
      case neg => rw [if_neg c] at h; exact h.elim
      rw [if_pos c] at h
      refine ⟨i, rfl, ?_, h _ H (Same.refl _) rfl⟩
      by_cases z : i.natAbs = 0
      · rw [z]; decide
      · have : i.natAbs.log2 < 10 := (Nat.log2_lt z).mpr (by omega)
        omega
    | _ => exact h.elim
  · cases x1 <;> exact h.elim
theorem eb_str (hm : X.mg "str" = none) (hg : Gl X "str") (ha : AD X W [a] fs) (he : starEach [a] X.env = (false, eval a X.env) :: starEach [] X.env := by rfl) : ED X W (.Call (.Name "str" p) [a] [] pos) (eOL strD fs) := ed_callTy call_str_int sem_str hg hm bt_str ha (he := he) (hpl := by first | rfl | (simp [he]; done))
/-- int(text) -/
def intTD : List D → R D
  | [.str a] => match PySem.intText? a with
    | some n => if a.length ≤ 640 then .ok (.int n) else .stuck
    | none => .stuck
  | _ => .stuck
theorem sem_intT : SemL (bdOf X) (fun xs H Q => ∃ a n, xs = [.str a] ∧ PySem.intText? a = some n ∧ a.length ≤ 640 ∧ Q (.int n) H) intTD := by
  intro Oc Om H xs us Q hO rs h
  rcases xs with _ | ⟨x1, _ | ⟨x2, rr⟩⟩
  · exact h.elim
  · cases x1 with
    | str t =>
      obtain ⟨u, rfl, r⟩ := repl1 rs
      cases r
      cases q : PySem.intText? t with
      | none =>
        have h3 : ((match PySem.intText? t with
          | some n => if t.length ≤ 640 then R.ok (D.int n) else .stuck
          | none => R.stuck) : R D).post _ _ := h
        rw [q] at h3
        exact h3.elim
      | some n =>
        have h3 : ((match PySem.intText? t with
          | some n => if t.length ≤ 640 then R.ok (D.int n) else .stuck
          | none => R.stuck) : R D).post (fun d => ∀ w H', Same H H' → Rep (bdOf X) (fz H' Oc Om) d w → Q w H') (fun _ => False) := h
        rw [q] at h3
        have h4 : (if t.length ≤ 640 then R.ok (D.int n) else .stuck : R D).post (fun d => ∀ w H', Same H H' → Rep (bdOf X) (fz H' Oc Om) d w → Q w H') (fun _ => False) := h3
        by_cases c : t.length ≤ 640
        · rw [if_pos c] at h4
          exact ⟨t, n, rfl, q, c, h4 _ H (Same.refl _) rfl⟩
        · rw [if_neg c] at h4; exact h4.elim
    | _ => exact h.elim
  · cases x1 <;> exact h.elim
theorem eb_intT (hm : X.mg "int" = none) (hg : Gl X "int") (ha : AD X W [a] fs) (he : starEach [a] X.env = (false, eval a X.env) :: starEach [] X.env := by rfl) : ED X W (.Call (.Name "int" p) [a] [] pos) (eOL intTD fs) := ed_callTy call_int_str sem_intT hg hm bt_int ha (he := he) (hpl := by first | rfl | (simp [he]; done))
end
end FF
set_option maxHeartbeats 4000000
/-! min, max of tuples, as far as the first difference tells; sorted of alike data; range of three -/
namespace PySem.SeqAt
open AutoSeq1 (wpAny_loadPart')
open MeetsSeq
open MeetsSeq2
open MeetsSeq3
open SeqRoads2
/-- t < u, tuples: of the places only those ahead of the first difference, and that, are asked -/
theorem tupLtW (p q : Addr) (xs ys : Array Value) (m m2 : Nat) (f f2 : Option Addr) (z z2 : Array (Option Value)) (e r : Nat → Bool) :
    Meets (Builtin.«tuple.__lt__» ⟨[.ref p, .ref q], []⟩)
      (fun A R s => s.heap.get? p = some { cls := .type "tuple", dict := f, data := .seq xs m, slots := z } ∧ s.heap.get? q = some { cls := .type "tuple", dict := f2, data := .seq ys m2, slots := z2 } ∧
        (∀ j (h1 : j < xs.size) (h2 : j < ys.size), EqAt A.in1 s xs[j] ys[j] (e j)) ∧ (∀ j (h1 : j < xs.size) (h2 : j < ys.size), (∀ i, i < j → e i = true) → e j = false → RcLt A.in1 s xs[j] ys[j] (r j)) ∧
        R (.ok (.ret (.bool (firstLt e r (decide (xs.size < ys.size)) (List.range (min xs.size ys.size)))))) s) :=
  .of_wp fun prog w A R s h => by
    obtain ⟨hp, g, d, tk, os⟩ := s; obtain ⟨hl, hb, he, hr, h⟩ := h
    have subt := AutoSeq1.sub_tuple_tuple
    have zl : (xs.toList.zip ys.toList).length = min xs.size ys.size := by simp
    wp_walk using wpAny_loadPart' hl, wpAny_loadPart' hb, wpAny_forIn_list _ (fun rest b s' => b.1 = none ∧ s' = ⟨hp, g, d, tk, os⟩ ∧ ∃ i, rest = (xs.toList.zip ys.toList).drop i ∧ (∀ k, k < i → e k = true) ∧
      R (.ok (.ret (.bool (firstLt e r (decide (xs.size < ys.size)) ((List.range (min xs.size ys.size)).drop i))))) ⟨hp, g, d, tk, os⟩) _
    case turn =>
      rintro ⟨y, x⟩ rest b s' ⟨hb', rfl, i, hz, hk, hR⟩
      have hlt : i < (xs.toList.zip ys.toList).length := by
        by_cases o : i < (xs.toList.zip ys.toList).length
        · exact o
        · rw [List.drop_of_length_le (by omega)] at hz; cases hz
      have hm : i < min xs.size ys.size := zl ▸ hlt
      have h1 : i < xs.size := by omega
      have h2 : i < ys.size := by omega
      rw [List.drop_eq_getElem_cons hlt] at hz
      injection hz with hyx hrest
      have hy : y = xs[i] := by simpa using congrArg Prod.fst hyx
      have hx : x = ys[i] := by simpa using congrArg Prod.snd hyx
      subst hy hx
      rw [show (List.range (min xs.size ys.size)).drop i = i :: (List.range (min xs.size ys.size)).drop (i + 1) by simp [List.drop_eq_getElem_cons, hm]] at hR
      refine wpAny_bind (he i h1 h2 prog w _ _ ?_)
      cases hy : e i with
      | true =>
        rw [firstLt_yes hy] at hR
        wp_walk
        exact ⟨rfl, rfl, i + 1, hrest, fun k z => by
          by_cases o : k = i
          · rw [o]; exact hy
          · exact hk k (by omega), hR⟩
      | false =>
        rw [firstLt_no hy] at hR
        simp only [Bool.false_eq_true, if_false, not_false_eq_true, if_true, Bool.not_false]
        refine wpAny_bind (wpAny_rule ?_)
        refine wpAny_bind (hr i h1 h2 hk hy prog w _ _ ?_)
        wp_walk
        exact ⟨_, rfl, hR⟩
    case fin =>
      rintro ⟨b1, b2⟩ s' ⟨hb', rfl, i, hz, hk, hR⟩
      simp only at hb'
      subst hb'
      have hge : min xs.size ys.size ≤ i := by
        by_cases o : i < (xs.toList.zip ys.toList).length
        · rw [List.drop_eq_getElem_cons o] at hz; cases hz
        · omega
      rw [List.drop_of_length_le (by simpa using hge)] at hR
      wp_walk
      exact ⟨_, rfl, by simpa [Builtin.Tuple.tupleCompareSizes, firstLt] using hR⟩
    case h =>
      exact ⟨rfl, rfl, 0, rfl, fun k z => absurd z (Nat.not_lt_zero k), by simpa using h⟩
theorem RcLt.tupW {A : Around} {s : Shared} {p q : Addr} {xs ys : Array Value} {e r : Nat → Bool} (hl : s.heap.IsTuple p xs) (hb : s.heap.IsTuple q ys) (hu : A.units < cLine)
    (he : ∀ j (h1 : j < xs.size) (h2 : j < ys.size), EqAt A.in1 s xs[j] ys[j] (e j)) (hr : ∀ j (h1 : j < xs.size) (h2 : j < ys.size), (∀ i, i < j → e i = true) → e j = false → RcLt A.in1 s xs[j] ys[j] (r j)) :
    RcLt A s (.ref p) (.ref q) (firstLt e r (decide (xs.size < ys.size)) (List.range (min xs.size ys.size))) := fun prog w E Q h => by
  obtain ⟨⟨c1, d1, t1, s1⟩, ho, hc, n, hd⟩ := id hl
  obtain ⟨⟨c2, d2, t2, s2⟩, ho2, hc2, n2, hd2⟩ := id hb
  simp only at hc hd hc2 hd2
  subst hc hd hc2 hd2
  exact richCompare_meets_room (op := .Lt) ⟨_, ho, rfl⟩ ⟨_, ho2, rfl⟩ F.slot_tuple_lt F.entry_tuple_lt (F.args_tuple_lt_2 _ _) (tupLtW p q xs ys n n2 d1 d2 s1 s2 e r)
    ⟨ho, ho2, he, hr, (fun x => nomatch x), h⟩ hu
end PySem.SeqAt
set_option maxHeartbeats 4000000
/-! rows: tuples that are known to have no dict of their own; their index -/
namespace FF
open PySem PySem.Spec PyProof.Rows L2
section
variable {X : Cx} {W : WX} {e a o : Expr} {f fa : DE} {fs : Sd → R (List D)} {pos : Pos}
/-- tuple(xs), xs a list; what is made has no dict -/
theorem cr_tupleF : CallR X (.type "tuple") (fun xs H Q => ∃ p ys, xs = [V.ref p] ∧ SqL X.K H p ys ∧ ∀ l o, o.cls = .type "tuple" → o.dict = none → H l = none → Q (.ref l) (upd H l (.frz o (.tup ys)))) := by
  intro pins s σ H xs us Q I r h
  obtain ⟨p, ys, rfl, hq, q⟩ := h
  obtain ⟨u, rfl, ru⟩ := vals1 r
  cases ru
  obtain ⟨its, r', pl, hz⟩ := I.list hq
  have hlen := r'.length
  refine call_tuple_list pl.isList (fun h' kp => ?_) (by simp only [List.size_toArray] <;> omega)
  have I0 : Inv X pins σ H { s with heap := h' } := I.kept (t' := s.toks) kp
  refine ⟨.ref h'.objs.size, upd H h'.objs.size (.frz { cls := .type "tuple", data := .seq its.toArray } (.tup ys)), ?_, rfl, q _ _ rfl rfl (I0.hok.fresh (Nat.le_refl _))⟩
  exact I0.laid (t' := s.toks) (fun b o z => Heap.get?_push_of_some _ z) (Nat.le_refl _) ⟨Heap.get?_push_size _ rfl, hz, its, r', IsTup.new _ _⟩
def rowTD : List D → R D
  | [.lst ds] => .ok (.row ds)
  | _ => .stuck
theorem sem_row : SemL (bdOf X) (fun xs H Q => ∃ p ys, xs = [V.ref p] ∧ SqL X.K H p ys ∧ ∀ l o, o.cls = .type "tuple" → o.dict = none → H l = none → Q (.ref l) (upd H l (.frz o (.tup ys)))) rowTD := by
  intro Oc Om H xs us Q hO rs h
  rcases xs with _ | ⟨x1, _ | ⟨x2, rr⟩⟩
  · exact h.elim
  · cases x1 with
    | lst ds =>
      obtain ⟨u, rfl, r⟩ := repl1 rs
      obtain ⟨a, vs, rfl, h1, h2⟩ := (show ∃ a vs, u = .ref a ∧ _ = some (HO.lst vs) ∧ RepL _ _ ds vs by unfold Rep at r; exact r)
      refine ⟨a, vs, rfl, SqL.of (fz_sub h1), fun l o hc hd hn => h _ _ (same_upd hn) ?_⟩
      unfold Rep
      exact ⟨l, o, vs, rfl, hc, hd, fz_new hO hn, h2.mono (same_minus (same_upd hn))⟩
    | _ => exact h.elim
  · cases x1 <;> exact h.elim
theorem ed_row {p : Pos} (hm : X.mg "tuple" = none) (hg : Gl X "tuple") (ha : AD X W [a] fs) (he : starEach [a] X.env = (false, eval a X.env) :: starEach [] X.env := by rfl) : ED X W (.Call (.Name "tuple" p) [a] [] pos) (eOL rowTD fs) :=
  ed_callTy cr_tupleF sem_row hg hm rfl ha (he := he) (hpl := by first | rfl | (simp [he]; done))
/-! ### what is asked of a row -/
def rowSl : Option (Option D) → (List D → R D) → R D
  | some (some (.row ds)), k => k ds
  | _, _ => .stuck
theorem SR.getRow {B : Bd} {Oc Om : List Addr} {σd : Sd} {σ : L2.St} {H : Hp} {i : Nat} {k : List D → R D} {P : D → Prop} {E : Str → Prop} (s : SR B Oc Om σd σ H) (h : (rowSl σd[i]? k).post P E) :
    ∃ ds a o vs, σ[i]? = some (some (.ref a)) ∧ o.cls = .type "tuple" ∧ o.dict = none ∧ fz H Oc Om a = some (.frz o (.tup vs)) ∧ RepL B (fz H Oc Om) ds vs ∧ (k ds).post P E := by
  cases q : σd[i]? with
  | none => rw [q] at h; exact h.elim
  | some x =>
    rw [q] at h
    cases x with
    | none => exact h.elim
    | some d =>
      cases d with
      | row ds =>
        obtain ⟨v, h1, h2⟩ := s.get q rfl
        obtain ⟨a, o, vs, rfl, k1, k2, k3, k4⟩ := (show ∃ a o vs, v = .ref a ∧ o.cls = .type "tuple" ∧ o.dict = none ∧ fz H Oc Om a = some (.frz o (.tup vs)) ∧ RepL B (fz H Oc Om) ds vs by unfold Rep at h2; exact h2)
        exact ⟨ds, a, o, vs, h1, k1, k2, k3, k4, h⟩
      | _ => exact h.elim
/-- e in row -/
def eInRow (f : DE) (i : Nat) : DE := fun σ => f σ >>= fun d => rowSl σ[i]? fun ds => if okIn d ds = true then .ok (.bl (inL d ds)) else .stuck
theorem inRow_read {i : Nat} {σ : L2.St} {H : Hp} {Q : VK} (h : tD (bdOf X) W (eInRow f i) σ H Q) : tOp (rInP X.K false) (tD (bdOf X) W f) (tVar i) σ H Q := by
  obtain ⟨Oc, Om, σd, s, h⟩ := h
  refine tD_seq s h fun d u H1 e1 r1 s1 h1 => ?_
  obtain ⟨ds, p, o, vs, k0, k1, k2, k3, k4, h2⟩ := s1.getRow h1
  refine ⟨_, k0, .inr ?_⟩
  by_cases z : okIn d ds = true
  · rw [if_pos z] at h2
    obtain ⟨o1, o2, o3⟩ := okIn_parts z
    refine ⟨d, ds, Rep.dp (r1.mono minus_sub) o1, .inr (.tup (.inl (.inr ⟨o, minus_sub _ _ k3⟩)) (RepL.dp (k4.mono minus_sub) o2)), z, ?_⟩
    rw [bne_ff]
    exact h2 _ H1 e1 rfl
  · rw [if_neg z] at h2
    exact h2.elim
theorem td_inRow {i : Nat} (hu : Rm X) (he : ED X W e f) (hx : PE X a (tVar i)) (hm : behindInMarks .In a = false) : TD X W (.Compare e [.In] [a] pos) (tB1 (eInRow f i)) :=
  pt_imp (pt_cmpR (op_inP hu) he hx hm) fun _ _ _ h => asB_read (fun _ _ _ h => inRow_read h) h
theorem ed_inRow {i : Nat} (hu : Rm X) (he : ED X W e f) (hx : PE X a (tVar i)) (hm : behindInMarks .In a = false) : ED X W (.Compare e [.In] [a] pos) (eInRow f i) :=
  pe_imp (pe_cmpR (op_inP hu) he hx hm) fun _ _ _ h => inRow_read h
/-- row.index(e) -/
def isRowV (x : V) (H : Hp) : Prop := ∃ p o vs, x = .ref p ∧ o.cls = .type "tuple" ∧ o.dict = none ∧ H p = some (.frz o (.tup vs))
theorem tyRow {pins : List (Addr × Obj)} {σ : L2.St} {H : Hp} {s : Shared} {x : V} {v : Value} (I : Inv X pins σ H s) (r : RelV x v) (ty : isRowV x H) : s.TypeIs v "tuple" ∧ ∀ a, v = .ref a → ∃ ob, s.heap.get? a = some ob ∧ ob.dict = none := by
  obtain ⟨p, o, vs, rfl, k1, k2, k3⟩ := ty
  have e : v = .ref p := r
  subst e
  have h1 := (I.hok p _ k3).1
  exact ⟨⟨o, h1, k1⟩, fun a z => by cases z; exact ⟨o, h1, k2⟩⟩
def eIxRow (i : Nat) (f : DE) : DE := fun σ => rowSl σ[i]? fun ds => f σ >>= fun d => (plc idxK ds d).quiet
theorem ed_ixRow {i : Nat} {apos cpos : Pos} (hu : Rm X) (hx : PE X o (tVar i)) (he : ED X W e f)
    (hbase : attributeBase o "index" X.env (eval o X.env) = eval o X.env := by rfl)
    (hfew : ((backTo cpos (starEach [e] X.env)).all (fun x => !x.1) && (backToKw cpos (keywordEach [] X.env)).all (fun x => x.1.isSome)
      && decide ([e].length + ([] : List Keyword).length + (if ([] : List Keyword).isEmpty then 0 else 1) < 30)) = true := by rfl)
    (hline : (apos.endLine == cpos.line) = true := by rfl) (hs : starEach [e] X.env = (false, eval e X.env) :: starEach [] X.env := by rfl) (hplain : (backTo cpos (starEach [] X.env)).any (·.1) = false := by rfl) :
    ED X W (.Call (.Attribute o "index" apos) [e] [] cpos) (eIxRow i f) :=
  pe_imp (pe_bmG isRowV tyRow PySem.F.plainAttrs_tuple PySem.F.slot_tuple_index PySem.F.type_tuple_index (mt_idxT hu) hx (pa_cons he pa_nil hs) hbase hfew hline hs hplain) fun σ H Q ⟨Oc, Om, σd, s, h⟩ => by
    obtain ⟨ds, p, ob, vs, k0, k1, k2, k3, k4, h2⟩ := s.getRow h
    have k5 := minus_sub _ _ k3
    refine ⟨_, k0, ⟨p, ob, vs, rfl, k1, k2, k5⟩, tD_seq s h2 fun y v H1 e1 r1 s1 h3 => ?_⟩
    obtain ⟨ok, n, hk, h4⟩ := plc_post (post_q h3 e1)
    obtain ⟨o1, o2, o3⟩ := okIn_parts ok
    exact ⟨p, vs, v, ds, y, n, rfl, rfl, .inl (.inr ⟨ob, e1 _ _ k5⟩), RepL.dp ((k4.mono minus_sub).mono e1) o2, Rep.dp (r1.mono minus_sub) o1, ok, hk, h4 _ H1 (Same.refl _) rfl⟩
end
end FF
set_option maxHeartbeats 4000000
/-! range of three; min of tuples, as far as the first difference tells; sorted of alike data -/
namespace FF
open PySem PySem.Spec PyProof.Rows L2
section
variable {X : Cx} {W : WX} {e a b c o tg : Expr} {f fa : DE} {fs : Sd → R (List D)} {pos : Pos}
/-! ### range(a, b, c), c > 0 -/
def rangeS (lo c : Int) (n : Nat) : List D := (List.range n).map fun (i : Nat) => D.int (lo + (i : Int) * c)
theorem yld_rangeS {B : Bd} {Oc Om : List Addr} {H : Hp} {lo c : Int} {n : Nat} : Yld B (Itc lo c n) Oc Om H (rangeS lo c n) := by
  have hl : (rangeS lo c n).length = n := by simp [rangeS]
  refine ⟨YFn fun i => .int (lo + (i : Nat) * c), by
    rw [hl]
    exact (walk_rangeC (lo := lo) (c := c) (n := n)).mono (fun H' e => trivial) (fun i H' x H'' _ _ y => y), fun i H' x H'' hi e y => ?_⟩
  obtain ⟨rfl, rfl⟩ := y
  refine ⟨Same.refl _, fun Oc' Om' _ e' => ⟨D.int (lo + (i : Int) * c), ?_, rfl⟩⟩
  have hi' : i < n := by omega
  simp [rangeS, hi']
def rg3K : List D → R (List D)
  | [.int i, .int j, .int c] => if 0 ≤ i ∧ i ≤ 1000000 ∧ 0 ≤ j ∧ j ≤ 1000000 ∧ 0 < c ∧ c ≤ 1000000 then .ok (rangeS i c (if i < j then (j - i - 1) / c + 1 else 0).toNat) else .stuck
  | _ => .stuck
def iRange3 (fs : Sd → R (List D)) : Sd → R (List D) := fun σ => fs σ >>= rg3K
theorem rgC_of {i j k : Int} (h : 0 ≤ i ∧ i ≤ 1000000 ∧ 0 ≤ j ∧ j ≤ 1000000 ∧ 0 < k ∧ k ≤ 1000000) : RgC i j k (if i < j then (j - i - 1) / k + 1 else 0).toNat := by
  obtain ⟨h1, h2, h3, h4, h5, h6⟩ := h
  have e : Builtin.Range.rangeSize i j k = (if i < j then (j - i - 1) / k + 1 else 0) := by
    unfold Builtin.Range.rangeSize
    rw [if_pos (show k > 0 from h5)]
  have nn : 0 ≤ (if i < j then (j - i - 1) / k + 1 else 0) ∧ (if i < j then (j - i - 1) / k + 1 else 0) ≤ 1000001 := by
    split
    · have a1 : 0 ≤ (j - i - 1) / k := Int.ediv_nonneg (by omega) (by omega)
      have a2 : (j - i - 1) / k ≤ j - i - 1 := Int.ediv_le_self _ (by omega)
      omega
    · omega
  have hprod : 0 ≤ (if i < j then (j - i - 1) / k + 1 else 0) * k ∧ (if i < j then (j - i - 1) / k + 1 else 0) * k ≤ 2000000 := by
    split
    · have a1 : (j - i - 1) / k * k ≤ j - i - 1 := Int.ediv_mul_le _ (by omega)
      have a0 : 0 ≤ (j - i - 1) / k * k := Int.mul_nonneg (Int.ediv_nonneg (by omega) (by omega)) (by omega)
      rw [Int.add_mul]
      omega
    · omega
  refine ⟨by omega, by omega, ?_, by rw [e]; omega⟩
  unfold Builtin.Range.small
  rw [e]
  generalize (if i < j then (j - i - 1) / k + 1 else 0) = n at nn hprod
  simp only [Builtin.Range.rangeFitsLong, Bool.and_eq_true, Bool.or_eq_true, decide_eq_true_eq, beq_iff_eq, if_pos (show k > 0 from h5)]
  omega
theorem id_range3 {p : Pos} (hg : Gl X "range") (hm : X.mg "range" = none) (ha : AD X W [a, b, c] fs)
    (hs : starEach [a, b, c] X.env = (false, eval a X.env) :: starEach [b, c] X.env := by rfl) (hpl : (backTo pos (starEach [b, c] X.env)).any (·.1) = false := by rfl) :
    ID X W tg (.Call (.Name "range" p) [a, b, c] [] pos) (iRange3 fs) :=
  pi_imp (pi_range3 hg hm ha hs hpl) fun σ H Q ⟨Oc, Om, σd, s, h⟩ => by
    refine tDA_seq s h fun ds vs H1 e1 r s1 h1 => ?_
    rcases ds with _ | ⟨x, _ | ⟨y, _ | ⟨z, _ | ⟨w, rr⟩⟩⟩⟩
    · exact h1.elim
    · cases x <;> exact h1.elim
    · cases x <;> first | exact h1.elim | (cases y <;> exact h1.elim)
    · cases x <;> first | exact h1.elim | skip
      cases y <;> first | exact h1.elim | skip
      cases z <;> first | exact h1.elim | skip
      rename_i i j k
      obtain ⟨_, _, rfl, rfl, _, _, rfl, rfl, _, _, rfl, rfl, rfl⟩ := r
      have h2 : (if 0 ≤ i ∧ i ≤ 1000000 ∧ 0 ≤ j ∧ j ≤ 1000000 ∧ 0 < k ∧ k ≤ 1000000 then R.ok (rangeS i k (if i < j then (j - i - 1) / k + 1 else 0).toNat) else .stuck).post
        (fun ds => ∀ J H', Same H H' → Yld (bdOf X) J Oc Om H' ds → Q J H') (exE (bdOf X) W σ H1) := h1
      split at h2
      · rename_i q
        exact ⟨i, j, k, _, rfl, rgC_of q, h2 _ H1 e1 yld_rangeS⟩
      · exact h2.elim
    · cases x <;> first | exact h1.elim | skip
      cases y <;> first | exact h1.elim | skip
      cases z <;> exact h1.elim
/-! ### < as far as the first difference tells -/
mutual
def ltO : PyData → PyData → Option Bool
  | .int a, .int b => some (decide (a < b))
  | .tuple xs, .tuple ys => ltOL xs ys
  | _, _ => none
def ltOL : List PyData → List PyData → Option Bool
  | [], [] => some false
  | [], _ :: _ => some true
  | _ :: _, [] => some false
  | x :: xs, y :: ys => if PyData.eqv x y = true then ltOL xs ys else ltO x y
end
theorem ltOL_at : ∀ (xs ys : List PyData) (k : Bool), ltOL xs ys = some k → ∀ j, j < xs.length → j < ys.length → (∀ i, i < j → SeqAt.pairEq xs ys i = true) → SeqAt.pairEq xs ys j = false →
    ltO (xs.getD j .none) (ys.getD j .none) = some k
  | [], _, _, _, j, h1, _, _, _ => absurd h1 (Nat.not_lt_zero _)
  | _ :: _, [], _, _, j, _, h2, _, _ => absurd h2 (Nat.not_lt_zero _)
  | x :: xs, y :: ys, k, h, 0, _, _, _, hj => by
    rw [ltOL] at h
    rw [if_neg (by rw [show PyData.eqv x y = false from hj]; exact Bool.false_ne_true)] at h
    exact h
  | x :: xs, y :: ys, k, h, j + 1, h1, h2, hi, hj => by
    rw [ltOL] at h
    rw [if_pos (show PyData.eqv x y = true from hi 0 (Nat.succ_pos _))] at h
    exact ltOL_at xs ys k h j (Nat.lt_of_succ_lt_succ h1) (Nat.lt_of_succ_lt_succ h2) (fun i z => hi (i + 1) (Nat.succ_lt_succ z)) hj
theorem ltOL_first : ∀ (xs ys : List PyData) (k : Bool), ltOL xs ys = some k → SeqAt.firstLt (SeqAt.pairEq xs ys) (fun _ => k) (decide (xs.length < ys.length)) (List.range (min xs.length ys.length)) = k
  | [], [], k, h => by
    rw [ltOL] at h
    cases h
    rfl
  | [], y :: ys, k, h => by
    rw [ltOL] at h
    cases h
    simp [SeqAt.firstLt]
  | x :: xs, [], k, h => by
    rw [ltOL] at h
    cases h
    simp [SeqAt.firstLt]
  | x :: xs, y :: ys, k, h => by
    rw [show min (x :: xs).length (y :: ys).length = min xs.length ys.length + 1 by simp only [List.length_cons]; omega, List.range_succ_eq_map]
    rw [ltOL] at h
    cases hx : PyData.eqv x y with
    | true =>
      rw [hx, if_pos rfl] at h
      rw [SeqAt.firstLt_yes (show SeqAt.pairEq (x :: xs) (y :: ys) 0 = true from hx), PySem.W.firstLt_map]
      have ih := ltOL_first xs ys k h
      rw [show decide ((x :: xs).length < (y :: ys).length) = decide (xs.length < ys.length) by simp]
      exact ih
    | false => rw [SeqAt.firstLt_no (show SeqAt.pairEq (x :: xs) (y :: ys) 0 = false from hx)]
theorem plain_getD {xs : List PyData} (h : PyData.plainAll xs = true) {d : PyData} (hd : d ∈ xs) : d.plain = true := by
  induction xs with
  | nil => cases hd
  | cons x xs ih =>
    have h' : x.plain = true ∧ PyData.plainAll xs = true := by simpa [PyData.plainAll] using h
    rcases List.mem_cons.mp hd with q | q
    · rw [q]; exact h'.1
    · exact ih h'.2 q
theorem rcLt_O : ∀ (n : Nat) (da db : PyData) (A : Around) (s : Shared) (u v : Value) (as bs : List Addr) (k : Bool), da.depth ≤ n → PySem.Reads s.heap u da as → PySem.Reads s.heap v db bs → ltO da db = some k → da.plain = true → db.plain = true → A.units + n < cLine → SeqAt.RcLt A s u v k
  | n, .int i, db, A, s, u, v, as, bs, k, hn, ra, rb, h, pa, pb, hu => by
    cases db <;> first | (simp [ltO] at h; done) | skip
    simp only [ltO, Option.some.injEq] at h
    subst h
    cases ra
    cases rb
    intro prog w E Q hq
    exact P.lt_int hq
  | 0, .tuple xs, db, A, s, u, v, as, bs, k, hn, ra, rb, h, pa, pb, hu => by
    simp [PyData.depth] at hn
  | n + 1, .tuple xs, db, A, s, u, v, as, bs, k, hn, ra, rb, h, pa, pb, hu => by
    cases db <;> first | (simp [ltO] at h; done) | skip
    rename_i ys
    rw [ltO] at h
    have hd : PyData.depthAll xs ≤ n := by rw [PyData.depth] at hn; omega
    have pa' : PyData.plainAll xs = true := by simpa [PyData.plain] using pa
    have pb' : PyData.plainAll ys = true := by simpa [PyData.plain] using pb
    cases ra with
    | @tuple l o us c _ as1 h1 h2 h3 h4 =>
      cases rb with
      | @tuple l' o' us' c' _ bs1 k1 k2 k3 k4 =>
        have n1 : us.size = xs.length := by simpa using SeqAt.ReadsAll.length _ _ _ h4
        have n2 : us'.size = ys.length := by simpa using SeqAt.ReadsAll.length _ _ _ k4
        have hf := ltOL_first xs ys k h
        rw [← n1, ← n2] at hf
        rw [← hf]
        refine SeqAt.RcLt.tupW (r := fun _ => k) ⟨o, h1, h2, _, h3⟩ ⟨o', k1, k2, _, k3⟩ (by omega) (fun j j1 j2 => ?_) fun j j1 j2 hi hj => ?_
        · have hm := Nat.min_le_left (PyData.depthAll xs) (PyData.depthAll ys)
          have q := SeqAt.eqAt_plainAll xs ys A.in1 s us.toList us'.toList _ _ h4 k4 pa' pb' (by show A.units + 1 + _ < _; omega) j (by simpa using j1) (by simpa using j2)
          simpa using q
        · obtain ⟨_, r1, _, m1, d1⟩ := PySem.W.readsAll_at h4 j us[j] (by simp [j1])
          obtain ⟨_, r2, _, m2, d2⟩ := PySem.W.readsAll_at k4 j us'[j] (by simp [j2])
          exact rcLt_O n _ _ A.in1 s _ _ _ _ k (by omega) r1 r2 (ltOL_at xs ys k h j (by omega) (by omega) hi hj) (plain_getD pa' m1) (plain_getD pb' m2) (by show A.units + 1 + _ < _; omega)
  | n, .none, db, A, s, u, v, as, bs, k, hn, ra, rb, h, pa, pb, hu => by cases db <;> simp [ltO] at h
  | n, .bool _, db, A, s, u, v, as, bs, k, hn, ra, rb, h, pa, pb, hu => by cases db <;> simp [ltO] at h
  | n, .str _, db, A, s, u, v, as, bs, k, hn, ra, rb, h, pa, pb, hu => by cases db <;> simp [ltO] at h
  | n, .list _, db, A, s, u, v, as, bs, k, hn, ra, rb, h, pa, pb, hu => by cases db <;> simp [ltO] at h
  | n, .dict _, db, A, s, u, v, as, bs, k, hn, ra, rb, h, pa, pb, hu => by cases db <;> simp [ltO] at h
end
end FF
set_option maxHeartbeats 4000000
/-! min of a list of tuples; sorted of a list of alike data -/
namespace FF
open PySem PySem.Spec PyProof.Rows L2
section
variable {X : Cx} {W : WX} {a : Expr} {fs : Sd → R (List D)} {pos p : Pos}
/-! ### min -/
def ltQ (x y : D) : Option Bool := ltO (toPy x) (toPy y)
def ltB (x y : D) : Bool := (ltQ x y).getD false
def allCmp (ds : List D) : Bool := ds.all fun x => ds.all fun y => (ltQ x y).isSome
def btD (ds : List D) (i j : Nat) : Bool := ltB (ds.getD i .non) (ds.getD j .non)
def minQ : List D → R D
  | [.lst (x :: xs)] => if isDataL (x :: xs) = true ∧ dptL (x :: xs) ≤ 100 ∧ allCmp (x :: xs) = true then .ok (xs.foldl (fun a y => if ltB y a then y else a) x) else .stuck
  | _ => .stuck
def rMinQ (K : PySem.W.Frag) : List V → Hp → VK → Prop := fun us H Q => ∃ (a : Addr) (vs : List V) (ds : List D), us = [V.ref a] ∧ SqL K H a vs ∧ DpAll K H vs (toPyL ds) ∧ 0 < ds.length ∧ isDataL ds = true ∧ dptL ds ≤ 100 ∧ allCmp ds = true ∧
  ∀ v, vs[argBest (btD ds) (ds.length - 1)]? = some v → Q v H
theorem toPyL_getD : ∀ (ds : List D) (i : Nat), i < ds.length → (toPyL ds).getD i .none = toPy (ds.getD i .non)
  | [], _, h => absurd h (Nat.not_lt_zero _)
  | d :: ds, 0, _ => rfl
  | d :: ds, i + 1, h => toPyL_getD ds i (Nat.lt_of_succ_lt_succ h)
theorem toPyL_len : ∀ ds : List D, (toPyL ds).length = ds.length
  | [] => rfl
  | d :: ds => by rw [toPyL, List.length_cons, List.length_cons, toPyL_len ds]
theorem getD_mem {α : Type} {x : α} : ∀ {xs : List α} {i : Nat}, i < xs.length → xs.getD i x ∈ xs
  | [], _, h => absurd h (Nat.not_lt_zero _)
  | y :: ys, 0, _ => List.mem_cons_self
  | y :: ys, i + 1, h => List.mem_cons_of_mem _ (getD_mem (xs := ys) (Nat.lt_of_succ_lt_succ h))
theorem vals_getD : ∀ {vs : List V} {us : List Value}, Vals vs us → ∀ (i : Nat) (u : Value), us[i]? = some u → ∃ v, vs[i]? = some v ∧ RelV v u
  | _, _, .nil, _, _, h => by simp at h
  | v :: _, _, .cons r rs, 0, u, h => ⟨v, rfl, by
    have e := Option.some.inj (show some _ = some u from h)
    subst e
    exact r⟩
  | _, _, .cons r rs, i + 1, u, h => by
    obtain ⟨v, h1, h2⟩ := vals_getD rs i u (by simpa using h)
    exact ⟨v, by simpa using h1, h2⟩
theorem cr_minQ (hu : Rm X) (hc : X.calm = true) : CallR X (.builtin "min") (rMinQ X.K) := by
  intro pins s σ H xs us Q I r h
  obtain ⟨a, vs, ds, rfl, hs, hd, hp, o1, o2, o3, q⟩ := h
  obtain ⟨u, rfl, ru⟩ := vals1 r
  obtain rfl : u = Value.ref a := ru
  obtain ⟨its, rv, hl, _⟩ := I.list hs
  obtain ⟨as, ra⟩ := itemsP I hd rv
  have hlen : its.toArray.size = ds.length := by
    have e := PySem.W.readsAll_len ra
    rw [toPyL_len] at e
    exact e
  have hu' : X.A.units + 200 < cLine := hu
  have hcmp : CmpIn X.prog X.w X.A.in1 .Lt s.heap (fun i v => its.toArray[i]? = some v) (btD ds) := by
    intro i j vi vj s' Q' E hk hi hj hq
    obtain ⟨as1, r1, l1, m1, d1⟩ := PySem.W.readsAll_atA ra i vi hi
    obtain ⟨as2, r2, l2, m2, d2⟩ := PySem.W.readsAll_atA ra j vj hj
    rw [toPyL_len] at l1 l2
    have p1 := plain_getD (toPyL_plain ds o1) m1
    have p2 := plain_getD (toPyL_plain ds o1) m2
    rw [toPyL_depth ds o1] at d1
    rw [toPyL_getD _ _ l1] at r1 p1 d1
    rw [toPyL_getD _ _ l2] at r2 p2
    have hsome : (ltQ (ds.getD i .non) (ds.getD j .non)).isSome = true := by
      have z := List.all_eq_true.mp o3 _ (getD_mem (x := D.non) l1)
      exact List.all_eq_true.mp z _ (getD_mem (x := D.non) l2)
    obtain ⟨k, ek⟩ := Option.isSome_iff_exists.mp hsome
    have ek2 : btD ds i j = k := by
      unfold btD ltB
      rw [ek]
      rfl
    rw [ek2] at hq
    exact rcLt_O 100 _ _ X.A.in1 s' vi vj _ _ k (by omega) (PySem.W.reads_keeps hk r1) (PySem.W.reads_keeps hk r2) ek p1 p2 (by show X.A.units + 1 + _ < _; omega) X.prog X.w E Q' hq
  refine call_min_walkH (PySem.W.iter_listW (A := X.A.in1) (I.ok.hd hc) hl.isList fun s₂ e Wk st hfp hw hk => ?_)
  refine ⟨_, _, _, _, _, _, _, s.heap, btD ds, rfl, Wk, st, hfp, by omega, hw, hk, hcmp, fun v s' hP m => ?_⟩
  obtain ⟨h', tk, rfl, hk'⟩ := PySem.W.moved_old e rfl m
  rw [hlen] at hP
  obtain ⟨x, hx, rx⟩ := vals_getD rv _ v (by simpa using hP)
  exact ⟨x, H, I.kept hk', rx, q x hx⟩
theorem repl_get {B : Bd} {G : Hp} : ∀ {ds : List D} {vs : List V}, RepL B G ds vs → ∀ {i : Nat}, i < ds.length → ∃ v, vs[i]? = some v ∧ Rep B G (ds.getD i .non) v
  | [], _, _, i, h => absurd h (Nat.not_lt_zero _)
  | d :: ds, _, h, 0, _ => by
    obtain ⟨v, r, rfl, h1, h2⟩ := h
    exact ⟨v, rfl, h1⟩
  | d :: ds, _, h, i + 1, hi => by
    obtain ⟨v, r, rfl, h1, h2⟩ := h
    obtain ⟨w, h3, h4⟩ := repl_get h2 (Nat.lt_of_succ_lt_succ hi)
    exact ⟨w, by simpa using h3, h4⟩
theorem sem_minQ : SemL (bdOf X) (rMinQ X.K) minQ := by
  intro Oc Om H xs us Q hO rs h
  rcases xs with _ | ⟨x1, _ | ⟨x2, rr⟩⟩
  · exact h.elim
  · cases x1 with
    | lst ds =>
      obtain ⟨u, rfl, r⟩ := repl1 rs
      obtain ⟨a, vs, rfl, h1, h2⟩ := (show ∃ a vs, u = .ref a ∧ _ = some (HO.lst vs) ∧ RepL _ _ ds vs by unfold Rep at r; exact r)
      cases ds with
      | nil => exact h.elim
      | cons d ds =>
        have h3 : (if isDataL (d :: ds) = true ∧ dptL (d :: ds) ≤ 100 ∧ allCmp (d :: ds) = true then R.ok (ds.foldl (fun a y => if ltB y a then y else a) d) else .stuck).post (fun d => ∀ w H', Same H H' → Rep (bdOf X) (fz H' Oc Om) d w → Q w H') (fun _ => False) := h
        by_cases z : isDataL (d :: ds) = true ∧ dptL (d :: ds) ≤ 100 ∧ allCmp (d :: ds) = true
        · rw [if_pos z] at h3
          obtain ⟨z1, z2, z3⟩ := z
          refine ⟨a, vs, d :: ds, rfl, SqL.of (fz_sub h1), RepL.dp (h2.mono minus_sub) z1, Nat.succ_pos _, z1, z2, z3, fun v hv => ?_⟩
          obtain ⟨b1, b2⟩ := PySem.W.argBest_fold ltB .non d ds ds.length (Nat.le_refl _)
          rw [List.take_length] at b2
          obtain ⟨v', k1, k2⟩ := repl_get h2 (i := argBest (btD (d :: ds)) ds.length) (by
            have : argBest (btD (d :: ds)) ds.length ≤ ds.length := b1
            simp only [List.length_cons]
            omega)
          rw [show (d :: ds).length - 1 = ds.length from rfl] at hv
          rw [hv] at k1
          cases k1
          have e : (d :: ds).getD (argBest (btD (d :: ds)) ds.length) .non = ds.foldl (fun a y => if ltB y a then y else a) d := b2
          rw [e] at k2
          exact h3 v H (Same.refl _) k2
        · rw [if_neg z] at h3
          exact h3.elim
    | _ => exact h.elim
  · cases x1 <;> first | exact h.elim | (rename_i ds; cases ds <;> exact h.elim)
theorem eb_minQ (hu : Rm X) (hc : X.calm = true) (hm : X.mg "min" = none) (hg : Gl X "min") (ha : AD X W [a] fs) (he : starEach [a] X.env = (false, eval a X.env) :: starEach [] X.env := by rfl) : ED X W (.Call (.Name "min" p) [a] [] pos) (eOL minQ fs) :=
  ed_callB (cr_minQ hu hc) sem_minQ hg hm rfl ha (he := he) (hpl := by first | rfl | (simp [he]; done))
/-! ### sorted -/
def leA (x y : D) : Bool := !PySem.W.dataLt (toPy y) (toPy x)
def isTupC : D → Bool
  | .tup (_ :: _) => true
  | _ => false
def isTupN : D → Bool
  | .tup _ => false
  | .non => false
  | _ => true
def okSort (ds : List D) : Bool := isDataL ds && decide (dptL ds ≤ 100) && decide (ds.length ≤ sizeLine) && (ds.all fun x => ds.all fun y => PySem.W.alike (toPy x) (toPy y)) && (ds.all isTupC || ds.all isTupN)
def sortA : List D → R D
  | [.lst ds] => if okSort ds = true then .ok (.lst (ds.mergeSort leA)) else .stuck
  | _ => .stuck
def rSortA (K : PySem.W.Frag) : List V → Hp → VK → Prop := fun us H Q => ∃ (a : Addr) (bs : List (D × V)), us = [V.ref a] ∧ SqL K H a (bs.map (·.2)) ∧ DpAll K H (bs.map (·.2)) (toPyL (bs.map (·.1))) ∧ okSort (bs.map (·.1)) = true ∧
  ∀ p, H p = none → Q (.ref p) (upd H p (.lst ((bs.mergeSort fun x y => leA x.1 y.1).map (·.2))))
theorem toPyL_map (ds : List D) : toPyL ds = ds.map toPy := by
  induction ds with
  | nil => rfl
  | cons d ds ih => rw [toPyL, ih, List.map_cons]
theorem vals_each : ∀ {bs : List (D × V)} {us : List Value}, Vals (bs.map (·.2)) us → PySem.W.EachIs (fun u b => RelV b.2 u) us bs
  | [], _, h => by cases h; exact .nil
  | b :: bs, _, h => by
    cases h with
    | cons r rs => exact .cons r (vals_each rs)
theorem each_vals : ∀ {bs : List (D × V)} {us : List Value}, PySem.W.EachIs (fun u b => RelV b.2 u) us bs → Vals (bs.map (·.2)) us
  | [], _, h => by cases h; exact .nil
  | b :: bs, _, h => by
    cases h with
    | cons r rs => exact .cons r (each_vals rs)
theorem reads_each {h : Heap} : ∀ {bs : List (D × V)} {us : List Value} {as : List Addr}, ReadsAll h us (toPyL (bs.map (·.1))) as → PySem.W.EachIs (fun u b => ∃ as, Reads h u (toPy b.1) as) us bs
  | [], _, _, r => by cases r; exact .nil
  | b :: bs, _, _, r => by
    cases r with
    | cons r rs => exact .cons ⟨_, r⟩ (reads_each rs)
theorem dptL_mem : ∀ {ds : List D} {d : D}, d ∈ ds → dpt d ≤ dptL ds
  | x :: xs, d, h => by
    rw [dptL]
    rcases List.mem_cons.mp h with q | q
    · rw [q]; omega
    · have := dptL_mem q; omega
theorem isData_mem : ∀ {ds : List D} {d : D}, isDataL ds = true → d ∈ ds → isData d = true
  | x :: xs, d, h, m => by
    have q' : isData x = true ∧ isDataL xs = true := by simpa [isDataL] using h
    rcases List.mem_cons.mp m with q | q
    · rw [q]; exact q'.1
    · exact isData_mem q'.2 q
theorem cr_sortA (hu : Rm X) : CallR X (.builtin "sorted") (rSortA X.K) := by
  intro pins s σ H xs us Q I r h
  obtain ⟨a, bs, rfl, hs, hd, ok, q⟩ := h
  obtain ⟨u, rfl, ru⟩ := vals1 r
  obtain rfl : u = Value.ref a := ru
  obtain ⟨its, rv, hl, hz⟩ := I.list hs
  obtain ⟨as, ra⟩ := Dp.readsAll I _ _ _ hd rv
  unfold okSort at ok
  simp only [Bool.and_eq_true, decide_eq_true_eq] at ok
  obtain ⟨⟨⟨⟨o1, o2⟩, o3⟩, o4⟩, o5⟩ := ok
  have hu' : X.A.units + 200 < cLine := hu
  have ev := vals_each rv
  have hlen : bs.length ≤ sizeLine := by simpa using o3
  have mem : ∀ b, b ∈ bs → b.1 ∈ bs.map (·.1) := fun b hb => List.mem_map.mpr ⟨b, hb, rfl⟩
  refine PySem.W.sorted_data (enc := fun b : D × V => toPy b.1) hl.isList ev (reads_each ra) ?_ ?_ hlen (fun b hb => ?_) fun out ho eo => ?_
  · intro x hx y hy
    obtain ⟨b, hb, rfl⟩ := List.mem_map.mp hx
    obtain ⟨c, hc, rfl⟩ := List.mem_map.mp hy
    exact List.all_eq_true.mp (List.all_eq_true.mp o4 _ (mem b hb)) _ (mem c hc)
  · rw [Bool.or_eq_true] at o5
    rcases o5 with o5 | o5
    · refine .inl fun d hd => ?_
      obtain ⟨b, hb, rfl⟩ := List.mem_map.mp hd
      have z := List.all_eq_true.mp o5 _ (mem b hb)
      cases e : b.1 with
      | tup ys =>
        cases ys with
        | nil => rw [e] at z; cases z
        | cons y ys => exact ⟨toPy y, toPyL ys, by rw [toPy, toPyL]⟩
      | _ => rw [e] at z; cases z
    · refine .inr fun d hd => ?_
      obtain ⟨b, hb, rfl⟩ := List.mem_map.mp hd
      have z := List.all_eq_true.mp o5 _ (mem b hb)
      have z2 := isData_mem o1 (mem b hb)
      cases e : b.1 <;> rw [e] at z z2 <;> first | (cases z; done) | (cases z2; done) | skip
      all_goals (rw [toPy]; exact ⟨(fun q => nomatch q), fun _ q => nomatch q⟩)
  · have z1 := isData_mem o1 (mem b hb)
    have z2 := dptL_mem (mem b hb)
    show X.A.units + 2 + (toPy b.1).depth < cLine
    rw [toPy_depth _ z1]
    omega
  · obtain ⟨ep, he'⟩ := PyProof.Rows.sortedAll_at s.heap its (List.toArray out)
    have e1 : (PySem.W.dataLe false fun b : D × V => toPy b.1) = fun x y => leA x.1 y.1 := rfl
    rw [e1] at eo
    have hv := each_vals eo
    have hn : ((bs.mergeSort fun x y => leA x.1 y.1).map (·.2)).length ≤ sizeLine := by
      rw [List.length_map, List.length_mergeSort]
      exact hlen
    exact ⟨.ref _, upd H (s.heap.objs.size + 1) (.lst ((bs.mergeSort fun x y => leA x.1 y.1).map (·.2))), I.laid (t' := s.toks) (fun _ _ => PyProof.Rows.sortedAll_old) (Nat.le_succ _) ⟨hn, out, ep, hv, he'⟩, rfl, q _ (I.hok.fresh (Nat.le_succ _))⟩
theorem repl_zip {B : Bd} {G : Hp} : ∀ {ds : List D} {vs : List V}, RepL B G ds vs → ∃ bs : List (D × V), ds = bs.map (·.1) ∧ vs = bs.map (·.2) ∧ ∀ b ∈ bs, Rep B G b.1 b.2
  | [], _, h => ⟨[], rfl, h, fun _ m => nomatch m⟩
  | d :: ds, _, h => by
    obtain ⟨v, r, rfl, h1, h2⟩ := h
    obtain ⟨bs, e1, e2, e3⟩ := repl_zip h2
    refine ⟨(d, v) :: bs, by rw [List.map_cons, ← e1], by rw [List.map_cons, ← e2], fun b m => ?_⟩
    rcases List.mem_cons.mp m with q | q
    · rw [q]; exact h1
    · exact e3 b q
theorem repl_of {B : Bd} {G : Hp} : ∀ {bs : List (D × V)}, (∀ b ∈ bs, Rep B G b.1 b.2) → RepL B G (bs.map (·.1)) (bs.map (·.2))
  | [], _ => rfl
  | b :: bs, h => ⟨b.2, bs.map (·.2), rfl, h b List.mem_cons_self, repl_of fun c m => h c (List.mem_cons_of_mem _ m)⟩
theorem sem_sortA : SemL (bdOf X) (rSortA X.K) sortA := by
  intro Oc Om H xs us Q hO rs h
  rcases xs with _ | ⟨x1, _ | ⟨x2, rr⟩⟩
  · exact h.elim
  · cases x1 with
    | lst ds =>
      obtain ⟨u, rfl, r⟩ := repl1 rs
      obtain ⟨a, vs, rfl, h1, h2⟩ := (show ∃ a vs, u = .ref a ∧ _ = some (HO.lst vs) ∧ RepL _ _ ds vs by unfold Rep at r; exact r)
      have h3 : (if okSort ds = true then R.ok (D.lst (ds.mergeSort leA)) else .stuck).post (fun d => ∀ w H', Same H H' → Rep (bdOf X) (fz H' Oc Om) d w → Q w H') (fun _ => False) := h
      by_cases z : okSort ds = true
      · rw [if_pos z] at h3
        have z1 : isDataL ds = true := by
          unfold okSort at z
          simp only [Bool.and_eq_true] at z
          exact z.1.1.1.1
        obtain ⟨bs, rfl, rfl, hb⟩ := repl_zip h2
        refine ⟨a, bs, rfl, SqL.of (fz_sub h1), RepL.dp (h2.mono minus_sub) z1, z, fun p hp => h3 _ _ (same_upd hp) ?_⟩
        have e : (bs.map (·.1)).mergeSort leA = (bs.mergeSort fun x y => leA x.1 y.1).map (·.1) := (List.map_mergeSort (r := fun x y : D × V => leA x.1 y.1) (s := leA) (f := fun b : D × V => b.1) (fun _ _ _ _ => rfl)).symm
        rw [e]
        exact rep_lstNew hO hp (repl_of fun b m => hb b ((List.mergeSort_perm _ _).mem_iff.mp m))
      · rw [if_neg z] at h3
        exact h3.elim
    | _ => exact h.elim
  · cases x1 <;> exact h.elim
theorem eb_sortA (hu : Rm X) (hm : X.mg "sorted" = none) (hg : Gl X "sorted") (ha : AD X W [a] fs) (he : starEach [a] X.env = (false, eval a X.env) :: starEach [] X.env := by rfl) : ED X W (.Call (.Name "sorted" p) [a] [] pos) (eOL sortA fs) :=
  ed_callB (cr_sortA hu) sem_sortA hg hm boot_sorted ha (he := he) (hpl := by first | rfl | (simp [he]; done))
end
end FF
set_option maxHeartbeats 4000000
/-! a new list of two lists; list(range(a, b)) -/
namespace FF
open PySem PySem.Spec PyProof.Rows L2
section
variable {X : Cx} {W : WX} {a b : Expr} {fa fb : DE} {pos : Pos}
def catK : D → D → R (List D)
  | .lst xs, .lst ys => if xs.length + ys.length ≤ sizeLine then .ok (xs ++ ys) else .stuck
  | _, _ => .stuck
/-- xs + ys, new -/
def nCat (fa fb : DE) : Sd → R (List D) := fun σ => fa σ >>= fun x => fb σ >>= fun y => catK x y
theorem nd_cat (ha : ED X W a fa) (hb : ED X W b fb) : NDx X W (.BinOp a .Add b pos) (nCat fa fb) :=
  pe_imp (pe_op op_cat ha hb) fun σ H Q ⟨Oc, Om, σd, s, h⟩ => tD_seq s h fun x u H1 e1 rx s1 h1 => tD_seq s1 h1 fun y v H2 e2 ry s2 h2 => by
    cases x <;> first | exact h2.elim | skip
    cases y <;> first | exact h2.elim | skip
    rename_i xs ys
    have h3 : (if xs.length + ys.length ≤ sizeLine then R.ok (xs ++ ys) else .stuck).post (fun ds => ∀ p vs H', Same H H' → H p = none → H' p = some (.lst vs) → RepL (bdOf X) (minus H' (p :: (Oc ++ Om))) ds vs → Q (.ref p) H') (exE (bdOf X) W σ H2) := h2
    split at h3
    · rename_i q
      obtain ⟨c, vs, rfl, k1, k2⟩ := (show ∃ a vs, u = .ref a ∧ _ = some (HO.lst vs) ∧ RepL _ _ xs vs by unfold Rep at rx; exact rx)
      obtain ⟨d, ws, rfl, k3, k4⟩ := (show ∃ a vs, v = .ref a ∧ _ = some (HO.lst vs) ∧ RepL _ _ ys vs by unfold Rep at ry; exact ry)
      refine ⟨c, d, vs, ws, rfl, rfl, e2 _ _ (fz_sub k1), fz_sub k3, by rw [k2.length, k4.length]; exact q, fun p hp => ?_⟩
      refine h3 p (vs ++ ws) _ (e1.trans (e2.trans (same_upd hp))) ?_ upd_same (by rw [fz_new2 hp]; exact (k2.mono (same_minus e2)).append k4)
      cases z : H p with
      | none => rfl
      | some o => rw [(e1.trans e2) _ _ z] at hp; cases hp
    · exact h3.elim
def lr2K : D → D → R D
  | .int i, .int j => if 0 ≤ i ∧ i ≤ 1000000 ∧ 0 ≤ j ∧ j ≤ 1000000 then .ok (.lst (rangeD i (j - i).toNat)) else .stuck
  | _, _ => .stuck
def eListRg2 (fa fb : DE) : DE := fun σ => fa σ >>= fun x => fb σ >>= fun y => lr2K x y
theorem ed_listRg2 {p p2 pos2 : Pos} (hc : X.calm = true) (hg : Gl X "list") (hm : X.mg "list" = none) (hg2 : Gl X "range") (hm2 : X.mg "range" = none) (ha : ED X W a fa) (hb : ED X W b fb)
    (h1 : starEach [a, b] X.env = (false, eval a X.env) :: starEach [b] X.env := by rfl) (h1b : starEach [b] X.env = (false, eval b X.env) :: starEach [] X.env := by rfl)
    (h2 : starEach [.Call (.Name "range" p2) [a, b] [] pos2] X.env = (false, eval (.Call (.Name "range" p2) [a, b] [] pos2) X.env) :: starEach [] X.env := by rfl) (h3 : (backTo pos2 (starEach [b] X.env)).any (·.1) = false := by rfl) :
    ED X W (.Call (.Name "list" p) [.Call (.Name "range" p2) [a, b] [] pos2] [] pos) (eListRg2 fa fb) :=
  pe_imp (pe_listRg hc hg hm (prg_2 hg2 hm2 ha hb h1 h1b h3) h2) fun σ H Q ⟨Oc, Om, σd, s, h⟩ => tD_seq s h fun x u H1 e1 rx s1 h1 => tD_seq s1 h1 fun y v H2 e2 ry s2 h2 => by
    cases x <;> first | exact h2.elim | skip
    cases y <;> first | exact h2.elim | skip
    rename_i i j
    cases rx
    cases ry
    have h3 : (if 0 ≤ i ∧ i ≤ 1000000 ∧ 0 ≤ j ∧ j ≤ 1000000 then R.ok (D.lst (rangeD i (j - i).toNat)) else .stuck).post (fun d => ∀ w H', Same H H' → Rep (bdOf X) (fz H' Oc Om) d w → Q w H') (exE (bdOf X) W σ H2) := h2
    split at h3
    · rename_i q
      exact ⟨i, j, rfl, rfl, RgOk.of_le (by omega) (by omega) (by omega) (by omega), fun p hp => h3 _ _ (e1.trans (e2.trans (same_upd hp))) (rep_lstNew s2.1 hp (rgV_rep _))⟩
    · exact h3.elim
end
end FF
set_option maxHeartbeats 4000000
/-! keys of one shape, none of which is written but those told -/
namespace FF
open PySem PySem.Spec PyProof.Rows L2
/-- four whole numbers -/
def shape4 : List Key → Bool
  | [.inl _, .inl _, .inl _, .inl _] => true
  | _ => false
def ktOkP (p : List Key → Bool) (cons : List (List Key)) (K : PySem.W.Frag) : Bool := K.all fun q => match q.2 with
  | ⟨.type c, _, .seq its _, _⟩ => if c = "tuple" then (match keyVs its.toList with
    | some ks => !p ks || memT ks cons
    | none => true) else true
  | _ => true
section
variable {X : Cx} {W : WX} {e : Expr} {f : DE}
def kAnyPK (p : List Key → Bool) (cons : List (List Key)) : D → R (List Key)
  | .tup ds => (match keyL ds with
    | some ks => if p ks = true ∧ memT ks cons = false then .ok ks else .stuck
    | none => .stuck)
  | _ => .stuck
def kAnyP (p : List Key → Bool) (cons : List (List Key)) (f : DE) : Sd → R (List Key) := fun σ => f σ >>= kAnyPK p cons
theorem kx_anyP {p : List Key → Bool} {cons : List (List Key)} (hK : ktOkP p cons X.K = true) (h : ED X W e f) : KX X W e (kAnyP p cons f) := pe_imp h fun σ H Q ⟨Oc, Om, σd, s, h⟩ => tD_seq s h fun d v H1 e1 r s1 h1 => by
  cases d <;> first | exact h1.elim | skip
  rename_i ds
  cases q : keyL ds with
  | none => simp only [kAnyPK, q] at h1; exact h1.elim
  | some ks =>
    simp only [kAnyPK, q] at h1
    by_cases hc : p ks = true ∧ memT ks cons = false
    · rw [if_pos hc] at h1
      unfold Rep at r
      obtain ⟨a, vs, rfl, t, rl⟩ := r
      have ev := keyL_rep q rl
      subst ev
      rcases t with t | ⟨o, its, n, hk, ho, hd, hz, hv⟩
      · exact h1 a H1 e1 t
      · exfalso
        have m := lookup_memA hk
        unfold ktOkP at hK
        rw [List.all_eq_true] at hK
        have z := hK _ m
        obtain ⟨cl, dc, da, sl⟩ := o
        simp only at ho hd
        subst ho hd
        simp only [if_true] at z
        rw [keyVs_vals hv] at z
        simp only [hc.1, hc.2] at z
        cases z
    · rw [if_neg hc] at h1
      exact h1.elim
end
end FF
set_option maxHeartbeats 4000000
/-! comprehensions whose test may raise, too -/
namespace FF
open PySem PySem.Spec PyProof.Rows L2
section
variable {X : Cx}
theorem lc_coreT {L : Addr} {W : WX} {pins : List (Addr × Obj)} {s : Shared} {σ : L2.St} {H : Hp} {Q : VK} {elt tg iter : Expr} {ifs : List Expr} {scope : Scope} {own : List (Str × Nat)} {pos pos' : Pos} {wi : TI} {g : TG} {tt : WX → TT} {te : WX → TE} {use : Option (Value → Sem Unit)} {Qf : Value → Shared → Prop}
    (hfr : FrmAt X L) (tk : TakesL X L W)
    (hc : X.calm = true) (hN : X.N.Nodup) (I : Inv X pins σ H s) (hi : PI X tg iter wi) (ok : BlkOk X.N X.env.scope scope own)
    (hg : ∀ (s : Shared) (H : Hp) (C : Addr) (cl : List (Str × Addr)) (fp : List Addr), PG (X.blk s H scope (compEnvC scope cl C X.env) fp) tg g) (ht : ∀ (s : Shared) (H : Hp) (C : Addr) (cl : List (Str × Addr)) (fp : List Addr) (xe : Value → Shared → Prop) (Wb : WX), FrmAt ((X.blk s H scope (compEnvC scope cl C X.env) fp).wish xe) L → TakesL ((X.blk s H scope (compEnvC scope cl C X.env) fp).wish xe) L Wb → PTs ((X.blk s H scope (compEnvC scope cl C X.env) fp).wish xe) ifs (tt Wb))
    (he : ∀ (s : Shared) (H : Hp) (C : Addr) (cl : List (Str × Addr)) (fp : List Addr) (xe : Value → Shared → Prop) (Wb : WX), FrmAt ((X.blk s H scope (compEnvC scope cl C X.env) fp).wish xe) L → TakesL ((X.blk s H scope (compEnvC scope cl C X.env) fp).wish xe) L Wb → PE ((X.blk s H scope (compEnvC scope cl C X.env) fp).wish xe) elt (te Wb))
    (hs : ∀ x, foldedSetIterable iter X.env x = pure x)
    (h : tLc wi g (tt (atS W σ)) (te (atS W σ)) (own.map (·.2)) σ H Q)
    (hRR : ∀ D C s' m H' (ce : Env), ce.locals = C → Inv X pins σ H' s' → Q (.ref D) H' → s'.heap.Ns C m → FpOk X pins H' C → compEnds (model X.prog X.w) X.A X.xe use Qf (.ref D) ce (.ok .next) s') :
    wpAny (model X.prog X.w) X.A (comprehension (.ListComp elt [⟨tg, iter, ifs, 0⟩] scope pos) scope X.env pos' (newList []) false (eval iter X.env) use) Qf X.xe s := by
  have hfree : ∀ y ∈ scope.names, y.2 = .free → ∃ c, X.env.cells.lookup y.1 = some c := fun y hy e => by
    rcases ok.free y hy e with k | k
    · exact I.ok.has _ (.inl k)
    · exact I.ok.has _ (.inr k)
  refine comprehension_at (use := use) rfl hs (closure_ok hfree) ok.kind (fun y hy e => by rw [ok.uniq y hy, e])
    (thn (hi.run pins s σ H _ I h) fun xv s1 hx => thn hx fun itv s2 h2 => ?_)
  obtain ⟨it, fp, tn, J, H2, e, I2, T, st2, f2, q⟩ := h2
  subst e
  refine wpAny_newObj_type (newEnv_comp ?_) (by show 0 ≤ sizeLine; decide)
  generalize hD : s2.heap.objs.size = D
  have hDn : H2 D = none := I2.hok.fresh (Nat.le_of_eq hD)
  obtain ⟨W', ⟨m0, w0⟩, turn⟩ := q D hDn
  -- the new list
  generalize hs3 : ({ s2 with heap := s2.heap.push { cls := .type "list", data := .seq ([] : List Value).toArray } } : Shared) = s3
  have I3 : Inv X pins σ (upd H2 D (.lst [])) s3 := by
    rw [← hs3]
    refine I2.laid (t' := s2.toks) (fun b o e => Heap.get?_push_of_some _ e) (Nat.le_of_eq hD) ⟨Nat.zero_le _, [], 0, .nil, ?_⟩
    rw [← hD]
    exact Heap.get?_push_size _ rfl
  have h3 : s3.heap = s2.heap.push { cls := .type "list", data := .seq ([] : List Value).toArray } := by rw [← hs3]
  have sz : ∀ b ∈ fp, b < s2.heap.objs.size := fun b hb => by
    obtain ⟨o, e, _⟩ := T.obj _ _ st2 b hb
    exact Heap.lt_size e
  have f3 : ∀ b ∈ fp, FpOk X pins (upd H2 D (.lst [])) b ∧ b < s3.heap.objs.size := fun b hb => by
    have hlt := sz b hb
    refine ⟨⟨?_, (f2 b hb).2⟩, by rw [h3, Heap.size_push]; exact Nat.lt_succ_of_lt hlt⟩
    rw [upd_ne (by rw [← hD]; exact Nat.ne_of_lt hlt)]
    exact (f2 b hb).1
  have st3 : tn 0 s3.heap := T.keep _ _ _ st2 fun b _ o e => by rw [h3]; exact Heap.get?_push_of_some _ e
  have I4 := block_start I3 ok hN f3
  have pg := hg s3 (upd H2 D (.lst [])) s3.heap.objs.size (cellsFrom (s3.heap.objs.size + 1) scope.names (cloFrom X.env.cells scope.names [])) fp
  have pt := ht s3 (upd H2 D (.lst [])) s3.heap.objs.size (cellsFrom (s3.heap.objs.size + 1) scope.names (cloFrom X.env.cells scope.names [])) fp
  have pe := he s3 (upd H2 D (.lst [])) s3.heap.objs.size (cellsFrom (s3.heap.objs.size + 1) scope.names (cloFrom X.env.cells scope.names [])) fp
  show codeAny _ _ (.compStart (.ListComp elt [⟨tg, iter, ifs, 0⟩] scope pos) 0 (.ref it) (.ref D) (compEnvC scope (cellsFrom (s3.heap.objs.size + 1) scope.names (cloFrom X.env.cells scope.names [])) s3.heap.objs.size X.env)) (compEnds (model X.prog X.w) X.A X.xe use Qf (.ref D) (compEnvC scope (cellsFrom (s3.heap.objs.size + 1) scope.names (cloFrom X.env.cells scope.names [])) s3.heap.objs.size X.env)) { s3 with heap := pushCells (s3.heap.push { cls := .type "dict", data := .dict #[] }) scope.names }
  have nfp : ∀ b ∈ fp, (upd H2 D (.lst [])) b = none := fun b hb => (f3 b hb).1.1
  generalize hce : compEnvC scope (cellsFrom (s3.heap.objs.size + 1) scope.names (cloFrom X.env.cells scope.names [])) s3.heap.objs.size X.env = ce at I4 pg pt pe ⊢
  have cL : ce.locals = s3.heap.objs.size := by subst hce; rfl
  have cF : ce.frame = X.env.frame := by subst hce; rfl
  generalize hH3 : upd H2 D (.lst []) = H3 at I3 I4 pg pt pe w0 nfp f3
  have tkB := blk_fails (scope := scope) (fp := fp) hfr tk I3 cF (fun b hb => (f3 b hb).1) cL rfl
  have frB : FrmAt ((X.blk s3 H3 scope ce fp).wish (notedBy (model X.prog X.w) X.A ce (CompFails (model X.prog X.w) X.A X.xe ce))) L := by
    obtain ⟨e0, o0, x1, x2, x3⟩ := hfr.ex
    exact ⟨e0, o0, x1, x2, cF.trans x3⟩
  have pe := pe _ _ frB tkB
  have pt := pt _ _ frB tkB
  generalize hs4 : ({ s3 with heap := pushCells (s3.heap.push { cls := .type "dict", data := .dict #[] }) scope.names } : Shared) = s4 at I4 ⊢
  have st4 : tn 0 s4.heap := T.keep _ _ _ st3 fun b _ o e => by rw [← hs4]; exact pushCells_keeps _ _ _ _ (Heap.get?_push_of_some _ e)
  have stat : ∀ {σ' : L2.St} {H' : Hp} {s' : Shared}, Inv (X.blk s3 H3 scope ce fp) [] σ' H' s' → (∀ b ∈ fp, H' b = none) → ∀ b ∈ fp, FpOk (X.blk s3 H3 scope ce fp) [] H' b := fun {σ' H' s'} I' hn b hb =>
    ⟨hn b hb, (I'.ok.exf b hb).1, I'.ok.exfs b hb, .inl hb, fun x c e => (I'.ok.exf b hb).2 x c e, fun p hp => absurd (show p ∈ ([] : List (Addr × Obj)) ++ [] from hp) (by simp)⟩
  have loop : codeAny (model X.prog X.w) X.A (.compLoop (.ListComp elt [⟨tg, iter, ifs, 0⟩] scope pos) 0 (.ref it) (.ref D) ce) (compEnds (model X.prog X.w) X.A X.xe use Qf (.ref D) ce) s4 := by
    refine compLoop_any (fun n s' => ∃ i H', Inv (X.blk s3 H3 scope ce fp) [] (wipe σ (own.map (·.2))) H' s' ∧ tn i s'.heap ∧ (∀ b ∈ fp, H' b = none) ∧ W' i n H') ?_ m0 ⟨0, H3, I4, st4, nfp, w0⟩
    rintro n s5 ⟨i, H5, I5, st5, n5, w5⟩
    rcases turn i n H5 w5 with ⟨stop, qq⟩ | ⟨go, Nx, hNx, step⟩
    · have td := T.done (X.blk s3 H3 scope ce fp) rfl rfl rfl hc i [] s5 _ H5 (fun _ _ => False) I5 (stat I5 n5) st5 stop
      refine thnF td fun r s6 ⟨hr, I6⟩ => ?_
      subst hr
      -- back in the def's context
      have I7 : Inv X pins σ H5 s6 := I3.call' (ch := fp) I6.os I6.base I6.hok I6.bare fun b hb => ⟨(f3 b hb).1.2.2.2.1, (f3 b hb).1.2.1, (f3 b hb).1.2.2.2.2.1, (f3 b hb).1.2.2.2.2.2⟩
      have nC : H5 s3.heap.objs.size = none := by
        have z : H5 ce.locals = none := I6.free
        rw [cL] at z
        exact z
      obtain ⟨m, hn, _⟩ := I6.loc
      have hn : s6.heap.Ns ce.locals m := hn
      rw [cL] at hn
      exact hRR D s3.heap.objs.size s6 m H5 ce cL I7 qq hn (I3.fpOk (Nat.le_refl _) nC)
    · have ti := T.item (X.blk s3 H3 scope ce fp) rfl rfl rfl hc i [] s5 _ H5 (fun _ _ => False) I5 (stat I5 n5) st5 go
      refine thnF ti fun r s6 ⟨u, hr, h6⟩ => ?_
      subst hr
      refine thnF h6 fun _ s7 ⟨x, H7, I7, r7, y7, st7, n7⟩ => ?_
      have I7' := I7.pinned (stat I7 n7) (T.obj _ _ st7)
      refine thnF (pg.run _ s7 _ H7 x u _ I7' r7 (step x H7 y7)) fun _ s8 ⟨σ8, H8, I8, hw8, q8⟩ => ?_
      refine thn (pt.run _ s8 σ8 H8 _ (I8.wish _) q8) fun b s9 ⟨H9, I9', q9⟩ => ?_
      have I9 := I9'.unwish
      -- the turn's end
      have fin : ∀ {s' : Shared} {H' : Hp}, Inv (X.blk s3 H3 scope ce fp) ([] ++ pinsAt fp s7.heap) σ8 H' s' → Nx H' → ∃ m, m < n ∧ ∃ i H', Inv (X.blk s3 H3 scope ce fp) [] (wipe σ (own.map (·.2))) H' s' ∧ tn i s'.heap ∧ (∀ b ∈ fp, H' b = none) ∧ W' i m H' := fun {s' H'} I' nx => by
        obtain ⟨m', hm, w'⟩ := hNx H' nx
        have pin' : ∀ b ∈ fp, ∀ o, s7.heap.get? b = some o → s'.heap.get? b = some o ∧ H' b = none := fun b hb o e =>
          let z := I'.pin (b, o) (List.mem_append_right _ (List.mem_append_right _ (mem_pinsAt hb e)))
          ⟨z.1, z.2.1⟩
        have hl : (wipe σ (own.map (·.2))).length = σ8.length := by rw [← hw8, wipe_length]
        refine ⟨m', hm, i + 1, H', (I'.unpinned (pins := [])).weak hl (fun j v e => ?_), T.keep _ _ _ st7 fun b hb o e => (pin' b hb o e).1, fun b hb => ?_, w'⟩
        · rw [← hw8] at e
          exact (wipe_some e).1
        · obtain ⟨o, e, _⟩ := T.obj _ _ st7 b hb
          exact (pin' b hb o e).2
      cases b with
      | false =>
        simp only [Bool.false_eq_true, if_false] at q9 ⊢
        exact fin I9 q9
      | true =>
        simp only [if_true] at q9 ⊢
        refine thn (pe.run _ s9 σ8 H9 _ (I9.wish _) q9) fun z s10 ⟨yv, H10, I10, r10, acc, hD10, hz10, nx⟩ => ?_
        exact app_ok (X := X.blk s3 H3 scope ce fp) I10.unwish hD10 hz10 r10 fun s11 I11 => fin I11 nx
  exact codeAny_compStart_list loop (T.self X.A 0 _ _ _ st4 loop)
/-- as a value -/
theorem pe_lcT {L : Addr} {W : WX} {elt tg iter : Expr} {ifs : List Expr} {scope : Scope} {own : List (Str × Nat)} {pos : Pos} {wi : TI} {g : TG} {tt : WX → TT} {te : WX → TE} (hfr : FrmAt X L) (tk : TakesL X L W)
    (hc : X.calm = true) (hN : X.N.Nodup) (hi : PI X tg iter wi) (ok : BlkOk X.N X.env.scope scope own)
    (hg : ∀ (s : Shared) (H : Hp) (C : Addr) (cl : List (Str × Addr)) (fp : List Addr), PG (X.blk s H scope (compEnvC scope cl C X.env) fp) tg g) (ht : ∀ (s : Shared) (H : Hp) (C : Addr) (cl : List (Str × Addr)) (fp : List Addr) (xe : Value → Shared → Prop) (Wb : WX), FrmAt ((X.blk s H scope (compEnvC scope cl C X.env) fp).wish xe) L → TakesL ((X.blk s H scope (compEnvC scope cl C X.env) fp).wish xe) L Wb → PTs ((X.blk s H scope (compEnvC scope cl C X.env) fp).wish xe) ifs (tt Wb))
    (he : ∀ (s : Shared) (H : Hp) (C : Addr) (cl : List (Str × Addr)) (fp : List Addr) (xe : Value → Shared → Prop) (Wb : WX), FrmAt ((X.blk s H scope (compEnvC scope cl C X.env) fp).wish xe) L → TakesL ((X.blk s H scope (compEnvC scope cl C X.env) fp).wish xe) L Wb → PE ((X.blk s H scope (compEnvC scope cl C X.env) fp).wish xe) elt (te Wb))
    (hs : ∀ x, foldedSetIterable iter X.env x = pure x := by intro _; rfl) :
    PE X (.ListComp elt [⟨tg, iter, ifs, 0⟩] scope pos) (fun σ H Q => tLc wi g (tt (atS W σ)) (te (atS W σ)) (own.map (·.2)) σ H Q) := by
  refine ⟨fun pins s σ H Q I h => ?_⟩
  rw [eval_ListComp]
  refine lc_coreT hfr tk hc hN I hi ok hg ht he hs h fun D C s' m H' ce hcl I' q hn f => ⟨m, by rw [hcl]; exact hn, fun h'' sb => ?_⟩
  obtain ⟨f0, f1, f2, f3, f4, f5⟩ := f
  exact ⟨.ref D, H', I'.turned (t' := s'.toks) (fun b o hb e => (sb.2 b (by rw [hcl]; exact hb)).trans e) f0 f1 f3 f4 f5, rfl, q⟩
end
section
variable {X : Cx} {W : WX} {e a b tg iter : Expr} {f fa fb : DE} {pos : Pos} {es : List Expr} {fs fl : Sd → R (List D)} {fi : Sd → R (List D)}
def R.ynT {α : Type} (r : R Bool) (a b : R α) : R α := match r with
  | .ok true => a
  | .ok false => b
  | .exc c => .exc c
  | .stuck => .stuck
def lcDT (own : List Nat) (t : Tgt) (tt : Sd → R Bool) (te : DE) (σ : Sd) : List D → R (List D)
  | [] => .ok []
  | d :: ds => (t.put d (clrO own σ)).then fun σ1 => (tt σ1).ynT (te σ1 >>= fun y => lcDT own t tt te σ ds >>= fun ys => .ok (y :: ys)) (lcDT own t tt te σ ds)
def lcAllT (own : List Nat) (t : Tgt) (tt : Sd → R Bool) (te : DE) (fi : Sd → R (List D)) : Sd → R (List D) := fun σ => fi σ >>= fun ds => if ds.length ≤ sizeLine then lcDT own t tt te σ ds else .stuck
def eLcT (own : List Nat) (t : Tgt) (tt : Sd → R Bool) (te : DE) (fi : Sd → R (List D)) : DE := fun σ => lcAllT own t tt te fi σ >>= fun ys => .ok (.lst ys)
theorem lcDT_len (own : List Nat) (t : Tgt) (tt : Sd → R Bool) (te : DE) (σ : Sd) : ∀ (ds ys : List D), lcDT own t tt te σ ds = .ok ys → ys.length ≤ ds.length
  | [], ys, h => by
    cases h
    exact Nat.le_refl _
  | d :: ds, ys, h => by
    unfold lcDT at h
    cases q : t.put d (clrO own σ) with
    | stuck => rw [q] at h; cases h
    | exc c => rw [q] at h; cases h
    | ok σ1 =>
      rw [q] at h
      replace h : (tt σ1).ynT (te σ1 >>= fun y => lcDT own t tt te σ ds >>= fun ys => .ok (y :: ys)) (lcDT own t tt te σ ds) = R.ok ys := h
      cases q1 : tt σ1 with
      | stuck => rw [q1] at h; cases h
      | exc c => rw [q1] at h; cases h
      | ok b =>
        rw [q1] at h
        cases b with
        | false => exact Nat.le_succ_of_le (lcDT_len own t tt te σ ds ys h)
        | true =>
          replace h : (te σ1 >>= fun y => lcDT own t tt te σ ds >>= fun ys => .ok (y :: ys)) = R.ok ys := h
          cases q2 : te σ1 with
          | stuck => rw [q2] at h; cases h
          | exc c => rw [q2] at h; cases h
          | ok y =>
            rw [q2] at h
            replace h : (lcDT own t tt te σ ds >>= fun ys => .ok (y :: ys)) = R.ok ys := h
            cases q3 : lcDT own t tt te σ ds with
            | stuck => rw [q3] at h; cases h
            | exc c => rw [q3] at h; cases h
            | ok zs =>
              rw [q3] at h
              cases h
              exact Nat.succ_le_succ (lcDT_len own t tt te σ ds zs q3)
/-- the comprehension's reading, its list at D fresh -/
theorem lc_readT {own : List Nat} {t : Tgt} {tt : Sd → R Bool} {te : DE} {fi : Sd → R (List D)} (hw : ∀ i ∈ t.slots, i ∈ own) {Oc Om : List Addr} {σd : Sd} {σ : L2.St} {H : Hp} {Q : VK} {β : Type} {k : List D → R β} {P : β → Prop}
    (s : SR (bdOf X) Oc Om σd σ H) (h : (lcAllT own t tt te fi σd >>= k).post P (exE (bdOf X) W σ H))
    (hk : ∀ ys p vs H', Same H H' → H p = none → H' p = some (.lst vs) → RepL (bdOf X) (minus H' (p :: (Oc ++ Om))) ys vs → ys.length ≤ sizeLine → (k ys).post P (exE (bdOf X) W σ H') → Q (.ref p) H') :
    tLc (tI (bdOf X) W fi) (t.g X.K) (tDT (bdOf X) (atS W σ) tt) (tD (bdOf X) (atS W σ) te) own σ H Q := by
  refine ⟨Oc, Om, σd, s, ?_⟩
  cases q : fi σd with
  | stuck => unfold lcAllT at h; rw [q] at h; exact h
  | exc c =>
    unfold lcAllT at h
    rw [q] at h
    exact h
  | ok ds =>
    unfold lcAllT at h
    rw [q] at h
    intro J H1 e1 y
    intro D hD
    replace h : ((if ds.length ≤ sizeLine then lcDT own t tt te σd ds else .stuck) >>= k).post P (exE (bdOf X) W σ H) := h
    by_cases hz : ds.length ≤ sizeLine
    case neg => rw [if_neg hz] at h; exact h.elim
    rw [if_pos hz] at h
    obtain ⟨Y, w, wy⟩ := y.w
    have s1 := s.same e1
    have hDO := s1.ndO hD
    have base : SR (bdOf X) (D :: Oc) Om (clrO own σd) (wipe σ own) (upd H1 D (.lst [])) := (s1.temp hD).wipe own
    have hHD : H D = none := by
      cases z : H D with
      | none => rfl
      | some o => rw [e1 _ _ z] at hD; cases hD
    refine lc_it w (fun i H' => ∃ acc vs, H' D = some (.lst vs) ∧ SR (bdOf X) (D :: Oc) Om (clrO own σd) (wipe σ own) H' ∧ (∀ b o, b ≠ D → H1 b = some o → H' b = some o) ∧ RepL (bdOf X) (minus H' (D :: (Oc ++ Om))) acc vs ∧ acc.length ≤ i ∧
        (lcDT own t tt te σd (ds.drop i) >>= fun zs => k (acc ++ zs)).post P (exE (bdOf X) W σ H)) ?_ ?_ ?_ ?_
    · exact ⟨[], [], upd_same, base, fun b o hb e => by rw [upd_ne hb]; exact e, .nil, Nat.le_refl _, by simpa using h⟩
    · intro i H' _ ⟨acc, vs, _, _, k1, _⟩ a o ha
      obtain ⟨a1, a2⟩ := minus_some.mp ha
      exact k1 a o (fun z => by rw [z, hD] at a2; cases a2) a2
    · intro i x H' H'' hi ⟨acc, vs, hvs, s', k1, rr, la, ql⟩ yy
      have sub : Same (fz H1 Oc Om) H' := fun a o ha => by
        obtain ⟨a1, a2⟩ := minus_some.mp ha
        exact k1 a o (fun z => by rw [z, hD] at a2; cases a2) a2
      obtain ⟨e2, wz⟩ := wy i H' x H'' hi sub yy
      have sub2 : Same (fz H1 Oc Om) (fz H' (D :: Oc) Om) := fun a o ha => by
        obtain ⟨a1, a2⟩ := minus_some.mp ha
        have ne : a ≠ D := fun z => by rw [z, hD] at a2; cases a2
        exact minus_some.mpr ⟨by simpa [ne] using a1, k1 a o ne a2⟩
      obtain ⟨d, hd, r⟩ := wz (D :: Oc) Om s'.1 sub2
      obtain ⟨hdl, hdl2⟩ := List.getElem?_eq_some_iff.mp hd
      have e3 : ds.drop i = d :: ds.drop (i + 1) := by
        rw [List.drop_eq_getElem_cons hdl, hdl2]
      rw [e3] at ql
      unfold lcDT at ql
      cases q3 : t.put d (clrO own σd) with
      | stuck => rw [q3] at ql; exact ql.elim
      | exc c => rw [q3] at ql; exact ql.elim
      | ok σ1 =>
        rw [q3] at ql
        refine Tgt.put_ok (B := bdOf X) t (s'.same e2) r q3 fun σ2 s3 hw2 => ⟨(hw2 own hw).trans wipe_idem, ?_⟩
        refine ⟨D :: Oc, Om, σ1, s3, ?_⟩
        have k2 : ∀ b o, b ≠ D → H1 b = some o → H'' b = some o := fun b o hb e => e2 _ _ (k1 b o hb e)
        have subR : Same (minus H' (D :: (Oc ++ Om))) (minus H'' (D :: (Oc ++ Om))) := same_minus e2
        replace ql : ((tt σ1).ynT (te σ1 >>= fun y => lcDT own t tt te σd (ds.drop (i + 1)) >>= fun ys => .ok (y :: ys)) (lcDT own t tt te σd (ds.drop (i + 1))) >>= fun zs => k (acc ++ zs)).post P (exE (bdOf X) W σ H) := ql
        cases q4 : tt σ1 with
        | stuck => rw [q4] at ql; exact ql.elim
        | exc c =>
          rw [q4] at ql
          exact exE.mono (fun b o e => e2 _ _ (k1 b o (fun z => by rw [z, hHD] at e; cases e) (e1 _ _ e))) ql
        | ok b =>
          rw [q4] at ql
          intro H3 e3
          have s4 := s3.same e3
          cases b with
          | false =>
            exact iteF ⟨acc, vs, e3 _ _ (e2 _ _ hvs), (s'.same e2).same e3, fun b o hb e => e3 _ _ (k2 b o hb e), (rr.mono subR).mono (same_minus e3), Nat.le_succ_of_le la, ql⟩
          | true =>
            replace ql : ((te σ1 >>= fun y => lcDT own t tt te σd (ds.drop (i + 1)) >>= fun ys => .ok (y :: ys)) >>= fun zs => k (acc ++ zs)).post P (exE (bdOf X) W σ H) := ql
            rw [bind_assoc'] at ql
            refine iteT ⟨D :: Oc, Om, σ1, s4, ?_⟩
            have sm3 : Same H H3 := fun b o e => e3 _ _ (k2 b o (fun z => by rw [z, hHD] at e; cases e) (e1 _ _ e))
            refine R.post_imp (R.post_bind ql) (fun yv _ ql v H4 e4 rv => ?_) (fun c _ z => z.mono sm3)
            rw [bind_assoc'] at ql
            have hv4 : H4 D = some (.lst vs) := e4 _ _ (e3 _ _ (e2 _ _ hvs))
            have rr4 : RepL (bdOf X) (minus H4 (D :: (Oc ++ Om))) acc vs := (((rr.mono subR).mono (same_minus e3)).mono (same_minus e4))
            have nD : D ∉ Om := fun z => hDO (by simp [z])
            have fz5 : minus (upd H4 D (.lst (vs ++ [v]))) (D :: (Oc ++ Om)) = minus H4 (D :: (Oc ++ Om)) := by
              funext b
              unfold minus
              by_cases hb : b = D
              · subst hb; simp
              · simp [hb, upd_ne hb]
            refine ⟨vs, hv4, by rw [rr4.length]; omega, acc ++ [yv], vs ++ [v], upd_same, ?_, fun b o hb e => by rw [upd_ne hb]; exact e4 _ _ (e3 _ _ (k2 b o hb e)), ?_, ?_, ?_⟩
            · exact (((s'.same e2).same e3).same e4).tempW nD
            · rw [fz5]
              exact rr4.append (.cons rv .nil)
            · rw [List.length_append]
              exact Nat.succ_le_succ la
            · have z : (fun zs => k (acc ++ [yv] ++ zs)) = fun zs => (R.ok (yv :: zs) >>= fun zs => k (acc ++ zs)) := by
                funext zs
                rw [List.append_assoc]
                rfl
              rw [z]
              exact ql
    · intro H' ⟨acc, vs, hvs, s', k1, rr, la, ql⟩
      rw [List.drop_length] at ql
      replace ql : (k (acc ++ [])).post P (exE (bdOf X) W σ H) := ql
      rw [List.append_nil] at ql
      have sm : Same H H' := fun b o e => k1 b o (fun z => by rw [z, hHD] at e; cases e) (e1 _ _ e)
      exact hk acc D vs H' sm hHD hvs rr (Nat.le_trans la hz) (R.post_imp ql (fun _ _ p => p) fun c _ z => z.mono sm)
variable {elt : Expr} {ifs : List Expr} {scope : Scope} {own : List (Str × Nat)} {tt : Sd → R Bool} {te : DE}
theorem idT_nil {Y : Cx} : PTs Y [] (tDT (bdOf Y) W tYesD) := pts_imp pts_nil fun σ H Q ⟨Oc, Om, σd, s, h⟩ => h H (Same.refl _)
theorem idT_one {Y : Cx} {c : Expr} {t : Sd → R Bool} (h : TD Y W c t) : PTs Y [c] (tDT (bdOf Y) W t) := pts_one h
theorem ed_lcT {L : Addr} (hfr : FrmAt X L) (tk : TakesL X L W) (t : Tgt) (hc : X.calm = true) (hN : X.N.Nodup) (hi : ID X W tg iter fi) (ok : BlkOk X.N X.env.scope scope own) (hw : ∀ i ∈ t.slots, i ∈ own.map (·.2))
    (hg : ∀ (s : Shared) (H : Hp) (C : Addr) (cl : List (Str × Addr)) (fp : List Addr), PG (X.blk s H scope (compEnvC scope cl C X.env) fp) tg (t.g X.K)) (ht : ∀ (s : Shared) (H : Hp) (C : Addr) (cl : List (Str × Addr)) (fp : List Addr) (xe : Value → Shared → Prop) (Wb : WX), FrmAt ((X.blk s H scope (compEnvC scope cl C X.env) fp).wish xe) L → TakesL ((X.blk s H scope (compEnvC scope cl C X.env) fp).wish xe) L Wb → PTs ((X.blk s H scope (compEnvC scope cl C X.env) fp).wish xe) ifs (tDT (bdOf X) Wb tt))
    (he : ∀ (s : Shared) (H : Hp) (C : Addr) (cl : List (Str × Addr)) (fp : List Addr) (xe : Value → Shared → Prop) (Wb : WX), FrmAt ((X.blk s H scope (compEnvC scope cl C X.env) fp).wish xe) L → TakesL ((X.blk s H scope (compEnvC scope cl C X.env) fp).wish xe) L Wb →
      ED ((X.blk s H scope (compEnvC scope cl C X.env) fp).wish xe) Wb elt te) (hs : ∀ x, foldedSetIterable iter X.env x = pure x := by intro _; rfl) :
    ED X W (.ListComp elt [⟨tg, iter, ifs, 0⟩] scope pos) (eLcT (own.map (·.2)) t tt te fi) :=
  pe_imp (pe_lcT (tt := fun Wb => tDT (bdOf X) Wb tt) (te := fun Wb => tD (bdOf X) Wb te) hfr tk hc hN hi ok hg ht he hs) fun σ H Q ⟨Oc, Om, σd, s, h⟩ => lc_readT hw s h fun ys p vs H' e1 hp hv r hz h1 =>
    h1 _ H' e1 (lc_frz (fun a ha z => s.1 a ha (z ▸ hp)) hv r)
end
end FF
set_option maxHeartbeats 4000000
/-! {} for keys that are numbers or texts; sorted(list(d)); xs.remove(n) -/
namespace FF
open PySem PySem.Spec PyProof.Rows L2
section
variable {X : Cx} {W : WX} {a e : Expr} {pos pos' p p2 pos2 : Pos}
/-- x = {}, for keys that are numbers or texts -/
def sNewK (i : Nat) : DS := fun σ => if i < σ.length then .next (σ.set i (some (.od [] []))) else .stuck
theorem sd_newK {i : Nat} {x : Str} {dpos : Pos} (hN : X.N.Nodup) (hi : X.N[i]? = some x) (hx : Loc X.env.scope x)
    (hs : swapsWith (.Dict [] [] dpos) (some (.Name x pos')) pos.line X.env = pure false := by rfl)
    (hf : X.fn x = true ∨ X.env.scope.names.lookup x = some .local := by first | exact .inl rfl | exact .inr rfl | assumption) : SD X W (.Assign [.Name x pos'] (.Dict [] [] dpos) pos) (sNewK i) :=
  ps_imp (ps_set hN hi hx pe_dnewK hs hf) fun Dn σ H ⟨Oc, Om, σd, s, g⟩ => by
    unfold sNewK at g
    by_cases hl : i < σd.length
    case neg => rw [if_neg hl] at g; exact g.elim
    rw [if_pos hl] at g
    intro p hp
    have e0 : Same H (upd H p (.dK [])) := same_upd hp
    have sp : SR (bdOf X) (p :: Oc) Om σd σ (upd H p (.dK [])) := s.protect e0 hp (by rw [upd_same]; exact fun z => nomatch z)
    have nd := s.ndO hp
    exact g _ (p :: Om) _ (sp.setD (vs := []) hl ⟨[], rfl, rfl, .inl upd_same⟩ (by rw [upd_same]; trivial) (fun z => nd (by simp [z])) (fun z => nd (by simp [z])) .nil) (ext_new e0 hp)
/-- the keys, all whole numbers -/
def keysI : List DKey → Option (List Int)
  | [] => some []
  | .inl (.inl n) :: ks => (match keysI ks with
    | some ns => some (n :: ns)
    | none => none)
  | _ => none
theorem keysI_eq : ∀ {ks : List DKey} {ns : List Int}, keysI ks = some ns → ks = ns.map fun n => .inl (.inl n)
  | [], ns, h => by
    cases h
    rfl
  | .inl (.inl n) :: ks, ns, h => by
    unfold keysI at h
    cases q : keysI ks with
    | none => rw [q] at h; cases h
    | some ms =>
      rw [q] at h
      cases h
      rw [keysI_eq q]
      rfl
  | .inl (.inr _) :: ks, ns, h => nomatch h
  | .inr _ :: ks, ns, h => nomatch h
def nSortD (i : Nat) : Sd → R (List D) := fun σ => match σ[i]? with
  | some (some (.od ks _)) => (match keysI ks with
    | some ns => .ok ((sortN ns).map .int)
    | none => .stuck)
  | _ => .stuck
theorem zip_keys : ∀ (ns : List Int) (vs : List V), ns.length = vs.length → (((ns.map fun n => (Sum.inl n : Key)).zip vs).map fun kv => kV kv.1) = ns.map V.int
  | [], _, _ => rfl
  | n :: ns, [], h => by simp at h
  | n :: ns, v :: vs, h => by
    have ih := zip_keys ns vs (by simpa using h)
    simp only [List.map_cons, List.zip_cons_cons, ih]
    rfl
theorem nd_sortD {i : Nat} (hc : X.calm = true) (hg : Gl X "sorted") (hm : X.mg "sorted" = none) (hg2 : Gl X "list") (hm2 : X.mg "list" = none) (ha : PE X a (tVar i))
    (he2 : starEach [a] X.env = (false, eval a X.env) :: starEach [] X.env := by rfl)
    (he : starEach [.Call (.Name "list" p2) [a] [] pos2] X.env = (false, eval (.Call (.Name "list" p2) [a] [] pos2) X.env) :: starEach [] X.env := by rfl)
    (hpl : (backTo pos2 (starEach [] X.env)).any (·.1) = false := by rfl) (hpl2 : (backTo pos (starEach [] X.env)).any (·.1) = false := by rfl) :
    NDx X W (.Call (.Name "sorted" p) [.Call (.Name "list" p2) [a] [] pos2] [] pos) (nSortD i) :=
  pe_imp (pe_callB cr_sortedI hg hm boot_sorted (pa_cons (pe_callTy (call_listD hc) hg2 hm2 rfl (pa_cons ha pa_nil he2) (by decide) (by decide) he2 hpl) pa_nil he) (by decide) (by decide) he hpl2) fun σ H Q ⟨Oc, Om, σd, s, h⟩ => by
    unfold nSortD at h
    split at h
    · rename_i ks ds hx
      obtain ⟨q, vs, k1, ⟨kk, e1, e2, e3⟩, _, _, _, _⟩ := s.ownD hx
      cases hk : keysI ks with
      | none => rw [hk] at h; exact h.elim
      | some ns =>
        rw [hk] at h
        have ek := keysI_eq hk
        have e4 : kk = ns.map fun n => (Sum.inl n : Key) := by
          rw [ek] at e1
          have := congrArg (List.map fun k : DKey => match k with
            | .inl k => k
            | .inr _ => .inl 0) e1
          rw [List.map_map, List.map_map] at this
          have a1 : (kk.map ((fun k : DKey => match k with
            | .inl k => k
            | .inr _ => .inl 0) ∘ Sum.inl)) = kk := by
            conv => rhs; rw [← List.map_id kk]
            exact List.map_congr_left fun _ _ => rfl
          rw [a1] at this
          rw [← this]
          exact List.map_congr_left fun _ _ => rfl
        subst e4
        have hl : ns.length = vs.length := by simpa using e2
        refine ⟨.ref q, k1, q, _, rfl, e3, fun r hr => ?_⟩
        rw [zip_keys ns vs hl]
        refine ⟨r, ns, rfl, SqL.of upd_same, fun ns' t hp hs hn => ?_⟩
        have e5 : ns' = sortN ns := sorted_uniq hs (sortN_rise ns) (hp.trans (sortN_perm ns).symm)
        subst e5
        have tr : t ≠ r := fun z => by rw [z, upd_same] at hn; cases hn
        rw [upd_ne tr] at hn
        have same : Same H (upd (upd H r (.lst (ns.map V.int))) t (.lst ((sortN ns).map V.int))) := (same_upd hr).trans (same_upd (by rw [upd_ne tr]; exact hn))
        exact h t _ _ same hn upd_same (repl_ints _)
    · exact h.elim
/-- x.remove(e): the first that is equal -/
def remK (xs : List D) (d : D) : R (List D) := match FF.intsOf xs, d with
  | some ns, .int k => if k ∈ ns then .ok ((ns.erase k).map .int) else .stuck
  | _, _ => .stuck
def sRem (i : Nat) (f : DE) : DS := fun σ => olAt i σ fun xs => (f σ).toOut σ fun d => match remK xs d with
  | .ok ys => .next (σ.set i (some (.ol ys)))
  | _ => .stuck
theorem sd_rem {o : Expr} {i : Nat} {apos cpos : Pos} (hc : X.calm = true) (tk : Takes X W) (ho : PE X o (tVar i)) (he : ED X W e f)
    (hbase : attributeBase o "remove" X.env (eval o X.env) = eval o X.env := by rfl)
    (hfew : ((backTo cpos (starEach [e] X.env)).all (fun x => !x.1) && (backToKw cpos (keywordEach [] X.env)).all (fun x => x.1.isSome)
      && decide (([e] : List Expr).length + ([] : List Keyword).length + (if ([] : List Keyword).isEmpty then 0 else 1) < 30)) = true := by rfl)
    (hline : (apos.endLine == cpos.line) = true := by rfl) (hs : starEach [e] X.env = (false, eval e X.env) :: starEach [] X.env := by rfl) (hplain : (backTo cpos (starEach [] X.env)).any (·.1) = false := by rfl)
    (hsw : swapsWith (.Call (.Attribute o "remove" apos) [e] [] cpos) none pos.line X.env = pure false := by rfl) :
    SD X W (.Expr (.Call (.Attribute o "remove" apos) [e] [] cpos) pos) (sRem i f) :=
  ps_imp (ps_expr (pe_remX hc tk ho he hbase hfew hline hs hplain) hsw) fun Dn σ H ⟨Oc, Om, σd, s, h⟩ => by
    obtain ⟨xs, hx, h⟩ := olAt_post h
    obtain ⟨p, vs, k1, k2, k3, k4, k5⟩ := s.own hx
    refine ⟨.ref p, k1, .inl ⟨rfl, _, SqL.of k2⟩, ?_⟩
    refine toOut_seq s h fun d v H1 e1 r s1 h1 => ?_
    obtain ⟨p', vs', k1', k2', k3', k4', k5'⟩ := s1.own hx
    rw [k1] at k1'
    cases k1'
    cases hr : remK xs d with
    | stuck => rw [hr] at h1; exact h1.elim
    | exc c => rw [hr] at h1; exact h1.elim
    | ok ys =>
      rw [hr] at h1
      unfold remK at hr
      split at hr
      · rename_i ns k hq
        by_cases hk : k ∈ ns
        case neg => rw [if_neg hk] at hr; cases hr
        rw [if_pos hk] at hr
        cases hr
        have ev := RepL.intsOf k4' hq
        subst ev
        exact ⟨p, ns, k, rfl, r, k2', fun _ => h1 σ Om _ (k5' _ _ (repl_ints _)) (ext_w k3), fun z => absurd hk z⟩
      · cases hr
end
end FF
set_option maxHeartbeats 4000000
/-! owned rows that go to a cell -/
namespace FF
open PySem PySem.Spec PyProof.Rows L2
section
variable {X : Cx} {W : WX} {elt tg iter : Expr} {scope : Scope} {own : List (Str × Nat)} {fi : Sd → R (List D)} {te : Sd → R (List D)} {pos : Pos}
theorem sd_lc2C (t : Tgt) {i : Nat} {y : Str} {py spos : Pos} (hc : X.calm = true) (hN : X.N.Nodup) (hy : X.N[i]? = some y) (hx : Loc X.env.scope y)
    (hi : ID X W tg iter fi) (ok : BlkOk X.N X.env.scope scope own) (hw : ∀ i ∈ t.slots, i ∈ own.map (·.2))
    (hg : ∀ (s : Shared) (H : Hp) (C : Addr) (cl : List (Str × Addr)) (fp : List Addr), PG (X.blk s H scope (compEnvC scope cl C X.env) fp) tg (t.g X.K)) (ht : ∀ (s : Shared) (H : Hp) (C : Addr) (cl : List (Str × Addr)) (fp : List Addr), ID0 (X.blk s H scope (compEnvC scope cl C X.env) fp) [] tYesD)
    (he : ∀ (s : Shared) (H : Hp) (C : Addr) (cl : List (Str × Addr)) (fp : List Addr), NDx (X.blk s H scope (compEnvC scope cl C X.env) fp) W0 elt te) (hs : ∀ x, foldedSetIterable iter X.env x = pure x := by intro _; rfl)
    (hsw : swapsWith (.ListComp elt [⟨tg, iter, [], 0⟩] scope pos) (some (.Name y py)) spos.line X.env = pure false := by rfl)
    (hf : X.fn y = true ∨ X.env.scope.names.lookup y = some .local := by first | exact .inl rfl | exact .inr rfl | assumption) :
    SD X W (.Assign [.Name y py] (.ListComp elt [⟨tg, iter, [], 0⟩] scope pos) spos) (sSetO2 i (lc2All (own.map (·.2)) t te fi)) :=
  ps_imp (ps_set hN hy hx (pe_lc hc hN hi ok hg ht he hs) hsw hf) fun Dn σ H ⟨Oc, Om, σd, s, h⟩ => by
    cases q : lc2All (own.map (·.2)) t te fi σd with
    | stuck => unfold sSetO2 at h; rw [q] at h; exact h.elim
    | exc c =>
      unfold sSetO2 at h
      rw [q] at h
      refine lc_read2 (W := W) (te := te) (P := fun _ : Unit => True) (k := fun _ => R.stuck) hw s ?_ (fun _ _ _ _ _ _ _ _ _ z => z.elim)
      rw [q]
      exact fun C H' hc e => h C σ Om H' hc (s.same e) (.of_same e)
    | ok ys =>
      unfold sSetO2 at h
      rw [q] at h
      replace h : (if i < σd.length then Out.next (σd.set i (some (.ol2 ys))) else .stuck).all (bdOf X) W Oc Om H Dn := h
      by_cases hl : i < σd.length
      case neg => rw [if_neg hl] at h; exact h.elim
      rw [if_pos hl] at h
      refine lc_read2 (W := W) (te := te) (P := fun zs => zs = ys) (k := fun zs => R.ok zs) hw s ?_ (fun zs p ps H' e1 hf ha nd r pz => ?_)
      · rw [q]
        exact rfl
      · have e : zs = ys := pz
        subst e
        exact h _ ((p :: ps) ++ Om) H' (s.setN e1 hl hf ha nd r) ⟨fun _ _ _ z => e1 _ _ z, fun a ha => by
          rcases List.mem_append.mp ha with z | z
          · exact .inr (hf a z)
          · exact .inl z⟩
end
end FF
set_option maxHeartbeats 4000000
/-! dicts with keys of any depth -/
namespace FF
open PySem PySem.Spec PyProof.Rows L2
section
variable {B : Bd} {Oc Om : List Addr} {σd : Sd} {σ : L2.St} {H : Hp}
theorem SR.ownN {i : Nat} {ks : List NestedKey} {ds : List D} (s : SR B Oc Om σd σ H) (hi : σd[i]? = some (some (.odN ks ds))) : ∃ p xs, σ[i]? = some (some (.ref p)) ∧ H p = some (NDictO B.prog B.w p xs) ∧ ks = xs.map (·.1) ∧ (∀ x ∈ xs, Dp B.K (fz H Oc Om) (.ref x.2.1) x.1.data ∧ x.1.depth ≤ 8) ∧ p ∈ Om ∧ RepL B (fz H Oc Om) ds (xs.map (·.2.2)) ∧
    ∀ xs' ds', (∀ x ∈ xs', Dp B.K (fz H Oc Om) (.ref x.2.1) x.1.data ∧ x.1.depth ≤ 8) → RepL B (fz H Oc Om) ds' (xs'.map (·.2.2)) → SR B Oc Om (σd.set i (some (.odN (xs'.map (·.1)) ds'))) σ (upd H p (NDictO B.prog B.w p xs')) := by
  obtain ⟨h1, fp, h2, h3, h4⟩ := s
  obtain ⟨f1, f, f2, v, e1, e2, ⟨x, rfl, e3⟩, e4⟩ := h2.focus hi
  subst e1
  unfold OR at e3
  obtain ⟨p, xs, rfl, k1, km, kd, rfl, k2⟩ := e3
  have pm : p ∈ Om := (h4 p (by simp)).1
  refine ⟨p, xs, e2, k1, km, kd, pm, k2, fun xs' ds' mu r => ?_⟩
  generalize ho : NDictO B.prog B.w p xs' = o
  have em : fz (upd H p o) Oc Om = fz H Oc Om := by
    funext b
    unfold fz minus
    by_cases hb : b = p
    · subst hb; simp [pm]
    · simp [upd_ne hb]
  have nd := h3
  rw [List.nodup_append] at nd
  obtain ⟨n1, n2, n3⟩ := nd
  have n4 : p ∉ f2 := by simp at n2; exact n2.1
  have n5 : p ∉ f1 := fun z => n3 p z p (by simp) rfl
  have q := e4 (fz (upd H p o) Oc Om) (upd H p o) (some (.odN (xs'.map (·.1)) ds')) (some (.ref p)) [p] (by rw [em]; exact Same.refl _) (fun a ha u z => by
    rw [upd_ne (fun e => by
      subst e
      rcases List.mem_append.mp ha with w | w
      · exact n5 w
      · exact n4 w)]
    exact z) ⟨.ref p, rfl, by
      unfold OR
      exact ⟨p, xs', rfl, by rw [upd_same, ho], rfl, by rw [em]; exact mu, rfl, by rw [em]; exact r⟩⟩
  rw [set_self_opt e2] at q
  refine ⟨fun a ha => ?_, _, q, h3, h4⟩
  by_cases hb : a = p
  · subst hb; rw [upd_same]; exact fun z => nomatch z
  · rw [upd_ne hb]; exact h1 a ha
/-- a protected dict goes to a name -/
theorem SR.setNk {i : Nat} {p : Addr}  (s : SR B (p :: Oc) Om σd σ H) (hi : i < σd.length) (hD : H p = some (NDictO B.prog B.w p [])) (hc : p ∉ Oc) (ho : p ∉ Om)  :
    SR B Oc (p :: Om) (σd.set i (some (.odN [] []))) (σ.set i (some (.ref p))) H := by
  obtain ⟨h1, fp, h2, h3, h4⟩ := s
  have em : minus H ((p :: Oc) ++ Om) = minus H (Oc ++ (p :: Om)) := minus_mem fun a => by
    simp only [List.mem_append, List.mem_cons]
    constructor
    · rintro ((z | z) | z)
      · exact .inr (.inl z)
      · exact .inl z
      · exact .inr (.inr z)
    · rintro (z | z | z)
      · exact .inl (.inr z)
      · exact .inl (.inl z)
      · exact .inr z
  rw [em] at h2
  obtain ⟨f1, f, f2, w, e1, _, _, e4⟩ := h2.focus (i := i) (d := σd[i]) (by simp [hi])
  subst e1
  have hpf : p ∉ f1 ++ (f ++ f2) := fun z => ho (h4 p z).1
  refine ⟨fun a ha => ?_, f1 ++ ([p] ++ f2), e4 _ H (some (.odN [] [])) (some (.ref p)) [p] (Same.refl _) (fun _ _ _ q => q) ⟨_, rfl, ?_⟩, ?_, fun a ha => ?_⟩
  · rcases List.mem_append.mp ha with z | z
    · exact h1 a (by simp [z])
    · rcases List.mem_cons.mp z with z | z
      · rw [z, hD]
        exact fun q => nomatch q
      · exact h1 a (by simp [z])
  · unfold OR
    exact ⟨p, [], rfl, hD, rfl, (fun _ m => nomatch m), rfl, rfl⟩
  · have nd : (f1 ++ f2).Nodup := List.Nodup.sublist (List.Sublist.append (List.Sublist.refl _) (by simp)) h3
    have q1 : p ∉ f1 := fun z => hpf (by simp [z])
    have q2 : p ∉ f2 := fun z => hpf (by simp [z])
    rw [List.nodup_append] at nd ⊢
    obtain ⟨n1, n2, n3⟩ := nd
    refine ⟨n1, by simp [q2, n2], fun a ha b hb => ?_⟩
    rcases List.mem_append.mp hb with z | z
    · have z' : b = p := by simpa using z
      rw [z']
      exact fun e => q1 (e ▸ ha)
    · exact n3 a ha b z
  · rcases List.mem_append.mp ha with z | z
    · have := h4 a (by simp [z])
      exact ⟨by simp [this.1], fun q => this.2 (by simp [q])⟩
    · rcases List.mem_append.mp z with z | z
      · have z' : a = p := by simpa using z
        rw [z']
        exact ⟨by simp, hc⟩
      · have := h4 a (by simp [z])
        exact ⟨by simp [this.1], fun q => this.2 (by simp [q])⟩
end
/-! ### such a dict in the heap -/
mutual
theorem reads_nested {h : Heap} : ∀ (k : NestedKey) {v : Value} {as : List Addr}, Reads h v k.data as → NestedIs h k v
  | .none, v, as, r => by
    unfold NestedKey.data at r
    cases r
    exact .none
  | .num i, v, as, r => by
    unfold NestedKey.data at r
    cases r
    exact .int _ _
  | .text x, v, as, r => by
    unfold NestedKey.data at r
    cases r
    exact .text _ _
  | .tup ks, v, as, r => by
    unfold NestedKey.data at r
    cases r with
    | tuple h1 h2 h3 h4 => exact .tup h1 h2 h3 (readsAll_nested ks h4)
theorem readsAll_nested {h : Heap} : ∀ (ks : List NestedKey) {vs : List Value} {as : List Addr}, ReadsAll h vs (NestedKey.datas ks) as → NestedAll h ks vs
  | [], vs, as, r => by
    unfold NestedKey.datas at r
    cases r
    exact .nil
  | k :: ks, vs, as, r => by
    unfold NestedKey.datas at r
    cases r with
    | cons a b => exact .cons (reads_nested k a) (readsAll_nested ks b)
end
theorem NOk.stay {prog : Program} {w : World} {p : Addr} {xs : List (NestedKey × Addr × V)} {h1 h2 : Heap} (x : NOk prog w p xs h1) (k : ∀ o, h1.get? p = some o → h2.get? p = some o) : NOk prog w p xs h2 := by
  obtain ⟨a, b, zs, r, o, es, ep, g, c⟩ := x
  exact ⟨a, b, zs, r, o, es, ep, k _ g, c⟩
theorem NOk.obj {prog : Program} {w : World} {p : Addr} {xs : List (NestedKey × Addr × V)} {H : Hp} {h : Heap} (x : NOk prog w p xs h) : ObjOk prog w H h p (NDictO prog w p xs) := by
  refine ⟨x, ?_, fun h1 h2 a k => a.stay k⟩
  obtain ⟨_, _, _, _, o, _, _, g, _⟩ := x
  exact ⟨o, g⟩
section
variable {X : Cx} {W : WX} {a e vx : Expr} {f fk fv : DE} {pos pos' p2 : Pos}
theorem pe_dnewN : PE X (.Dict [] [] pos) (fun _ H Q => ∀ p, H p = none → Q (.ref p) (upd H p (NDictO X.prog X.w p []))) := ⟨fun pins s σ H Q I h =>
  wpAny_Dict_empty ⟨.ref s.heap.objs.size, _, I.laid (a := s.heap.objs.size) (o := NDictO X.prog X.w s.heap.objs.size []) (t' := s.toks) (fun _ _ q => Heap.get?_push_of_some _ q) (Nat.le_refl _)
    (NOk.obj ⟨Nat.zero_le _, beq_eq_false_iff_ne.mpr (Ne.symm (Nat.ne_of_lt I.big)), [], .nil, _, #[], 0, Heap.get?_push_size _ rfl, ⟨rfl, rfl, rfl⟩, rfl, rfl, List.nodup_nil⟩), rfl, h _ (I.hok.fresh (Nat.le_refl _))⟩⟩
/-- x = {}, for keys of any depth -/
def sNewN (i : Nat) : DS := fun σ => if i < σ.length then .next (σ.set i (some (.odN [] []))) else .stuck
theorem sd_newN {i : Nat} {x : Str} {dpos : Pos} (hN : X.N.Nodup) (hi : X.N[i]? = some x) (hx : Loc X.env.scope x)
    (hs : swapsWith (.Dict [] [] dpos) (some (.Name x pos')) pos.line X.env = pure false := by rfl)
    (hf : X.fn x = true ∨ X.env.scope.names.lookup x = some .local := by first | exact .inl rfl | exact .inr rfl | assumption) : SD X W (.Assign [.Name x pos'] (.Dict [] [] dpos) pos) (sNewN i) :=
  ps_imp (ps_set hN hi hx pe_dnewN hs hf) fun Dn σ H ⟨Oc, Om, σd, s, g⟩ => by
    unfold sNewN at g
    by_cases hl : i < σd.length
    case neg => rw [if_neg hl] at g; exact g.elim
    rw [if_pos hl] at g
    intro p hp
    have e0 : Same H (upd H p (NDictO X.prog X.w p [])) := same_upd hp
    have sp : SR (bdOf X) (p :: Oc) Om σd σ (upd H p (NDictO X.prog X.w p [])) := s.protect e0 hp (by rw [upd_same]; exact fun z => nomatch z)
    have nd := s.ndO hp
    exact g _ (p :: Om) _ (sp.setNk hl upd_same (fun z => nd (by simp [z])) (fun z => nd (by simp [z]))) (ext_new e0 hp)
theorem call_lenN : CallR X (.builtin "len") (fun xs H Q => ∃ p ks, xs = [V.ref p] ∧ H p = some (NDictO X.prog X.w p ks) ∧ Q (.int ks.length) H) := by
  intro pins s σ H xs us Q I r h
  obtain ⟨a, kvs, rfl, ha, q⟩ := h
  obtain ⟨u, rfl, ru⟩ := vals1 r
  cases ru
  obtain ⟨z, hd, zs, rel, o, es, ep, h1, h2, h3, h4, h5⟩ := (I.hok a _ ha).1
  have e : es.size = kvs.length := by
    rw [Paired.length rel, ← Array.length_toList, h4, List.length_map]
  have z' : es.size ≤ sizeLine := by rw [e]; exact z
  refine call_len_raw hd ⟨o, h1, h2, h3⟩ (by rw [sizeLine_eq] at z'; omega) ?_
  rw [e]
  exact ⟨.int kvs.length, H, I.tok _, ⟨_, rfl⟩, q⟩
def odNs : Option (Option D) → (List NestedKey → List D → R D) → R D
  | some (some (.odN ks ds)), k => k ks ds
  | _, _ => .stuck
def eLenN (i : Nat) : DE := fun σ => odNs σ[i]? fun ks _ => .ok (.int ks.length)
theorem odNs_post {o : Option (Option D)} {k : List NestedKey → List D → R D} {P : D → Prop} {E : Str → Prop} (h : (odNs o k).post P E) : ∃ ks ds, o = some (some (.odN ks ds)) ∧ (k ks ds).post P E := by
  unfold odNs at h
  split at h
  · exact ⟨_, _, rfl, h⟩
  · exact h.elim
theorem ed_lenN {i : Nat} {p : Pos} (hg : Gl X "len") (hm : X.mg "len" = none) (ho : PE X a (tVar i)) (he : starEach [a] X.env = (false, eval a X.env) :: starEach [] X.env := by rfl) (hpl : (backTo pos (starEach [] X.env)).any (·.1) = false := by rfl) :
    ED X W (.Call (.Name "len" p) [a] [] pos) (eLenN i) :=
  pe_imp (pe_callB call_lenN hg hm bt_len (pa_cons ho pa_nil he) (by decide) (by decide) he hpl) fun σ H Q ⟨Oc, Om, σd, s, h⟩ => by
    obtain ⟨ks, ds, hx, h2⟩ := odNs_post h
    obtain ⟨q, xs, k1, k2, k3, _, _, _⟩ := s.ownN hx
    refine ⟨.ref q, k1, q, xs, rfl, k2, ?_⟩
    have e : xs.length = ks.length := by rw [k3, List.length_map]
    rw [e]
    exact h2 _ H (Same.refl _) rfl
/-! ### x[k] = v -/
def storedV (xs : List (NestedKey × Addr × V)) (k : NestedKey) (b : Addr) (v : V) : List (NestedKey × Addr × V) := if (xs.any fun x => decide (x.1 = k)) = true then xs.map (fun x => if x.1 = k then (x.1, x.2.1, v) else x) else xs ++ [(k, b, v)]
abbrev PN : NestedKey × Addr × V → NestedKey × Addr × Value → Prop := fun a b => a.1 = b.1 ∧ a.2.1 = b.2.1 ∧ RelV a.2.2 b.2.2
theorem pn_any {k : NestedKey} : ∀ {xs : List (NestedKey × Addr × V)} {zs : List (NestedKey × Addr × Value)}, Paired PN xs zs → (xs.any fun x => decide (x.1 = k)) = (atKey zs k).isSome
  | _, _, .nil => rfl
  | _, _, .cons (a := a) (b := b) r t => by
    rw [List.any_cons, pn_any t, r.1]
    by_cases h : b.1 = k
    · simp [atKey, h]
    · simp [atKey, h]
theorem pn_map {k : NestedKey} {v : V} {u : Value} (hv : RelV v u) : ∀ {xs : List (NestedKey × Addr × V)} {zs : List (NestedKey × Addr × Value)}, Paired PN xs zs → Paired PN (xs.map fun x => if x.1 = k then (x.1, x.2.1, v) else x) (zs.map (putAt k u))
  | _, _, .nil => .nil
  | _, _, .cons (a := a) (b := b) r t => by
    rw [List.map_cons, List.map_cons]
    refine .cons ?_ (pn_map hv t)
    unfold putAt
    rw [r.1]
    by_cases h : b.1 = k
    · rw [if_pos h, if_pos h]
      exact ⟨rfl, r.2.1, hv⟩
    · rw [if_neg h, if_neg h]
      exact r
theorem pn_app {xs ys : List (NestedKey × Addr × V)} {zs ws : List (NestedKey × Addr × Value)} (h : Paired PN xs zs) (h2 : Paired PN ys ws) : Paired PN (xs ++ ys) (zs ++ ws) := by
  induction h with
  | nil => exact h2
  | cons r _ ih => exact .cons r ih
theorem pn_stored {xs : List (NestedKey × Addr × V)} {zs : List (NestedKey × Addr × Value)} {k : NestedKey} {b : Addr} {v : V} {u : Value} (h : Paired PN xs zs) (hv : RelV v u) : Paired PN (storedV xs k b v) (storedH zs k b u) := by
  unfold storedV storedH
  rw [pn_any h]
  split
  · exact pn_map hv h
  · exact pn_app h (.cons ⟨rfl, rfl, hv⟩ .nil)
theorem storedV_len (xs : List (NestedKey × Addr × V)) (k : NestedKey) (b : Addr) (v : V) : (storedV xs k b v).length ≤ xs.length + 1 := by
  unfold storedV
  split <;> simp
def sDPutN (K : PySem.W.Frag) (prog : Program) (w : World) (td ty tv : TE) : TS := fun D σ H => tv σ H fun v H1 => td σ H1 fun x H2 => ty σ H2 fun y H3 => ∃ p b xs k, x = .ref p ∧ y = .ref b ∧ H3 p = some (NDictO prog w p xs) ∧ (∀ x ∈ xs, Dp K H3 (.ref x.2.1) x.1.data ∧ x.1.depth ≤ 8) ∧
  Dp K H3 (.ref b) k.data ∧ k.depth ≤ 8 ∧ xs.length < sizeLine ∧ D.nx σ (upd H3 p (NDictO prog w p (storedV xs k b v)))
theorem pn_mem {xs : List (NestedKey × Addr × V)} {zs : List (NestedKey × Addr × Value)} (h : Paired PN xs zs) : ∀ z ∈ zs, ∃ x ∈ xs, x.1 = z.1 ∧ x.2.1 = z.2.1 := by
  induction h with
  | nil => exact fun _ m => nomatch m
  | cons r _ ih =>
    intro z hz
    rcases List.mem_cons.mp hz with q | q
    · exact ⟨_, List.mem_cons_self, by rw [q]; exact ⟨r.1, r.2.1⟩⟩
    · obtain ⟨x, hx, h2⟩ := ih z q
      exact ⟨x, List.mem_cons_of_mem _ hx, h2⟩
theorem ps_dputN {o i value : Expr} {td ty tv : TE} (hu : X.A.units + 200 < cLine) (ho : PE X o td) (hi : PE X i ty) (hv : PE X value tv) (hs : swapsWith value (some (.Subscript o i pos')) pos.line X.env = pure false) :
    PS X (.Assign [.Subscript o i pos'] value pos) (sDPutN X.K X.prog X.w td ty tv) := by
  refine ⟨fun pins s σ H D I h => ?_⟩
  refine wpAny_Assign_Subscript (thn (hv.run pins s σ H _ I h) fun r s1 ⟨v, H1, I1, rv, q1⟩ => thn (ho.run pins s1 σ H1 _ I1 q1) fun u s2 ⟨x, H2, I2, rx, q2⟩ => thn (hi.run pins s2 σ H2 _ I2 q2) fun iv s3 ⟨y, H3, I3, ry, p, b, xs, k, ex, ey, hp, kd, kb, k8, hl, q3⟩ => ?_) hs
  subst ex
  subst ey
  obtain rfl : u = Value.ref p := rx
  obtain rfl : iv = Value.ref b := ry
  obtain ⟨z, hd, zs, rel, o, es, ep, h1, h2, h3, h4, h5⟩ := (I3.hok p _ hp).1
  have isk : ∀ (q : NestedKey) (a : Addr), Dp X.K H3 (.ref a) q.data → q.depth ≤ 8 → (nestedKind X.prog X.w).is s3.heap q a := fun q a hq h8 => by
    obtain ⟨as, ra⟩ := Dp.reads I3 _ _ (Value.ref a) hq rfl
    exact ⟨reads_nested q ra, h8⟩
  have dd : s3.heap.DictOfH (nestedKind X.prog X.w) p zs := ⟨o, es, ep, h1, h2, h3, h4, fun z hz => by
    obtain ⟨x, hx, e1, e2⟩ := pn_mem rel z hz
    rw [← e1, ← e2]
    exact isk _ _ (kd x hx).1 (kd x hx).2, h5⟩
  have hz : zs.length ≤ sizeLine := by rw [← Paired.length rel]; exact z
  refine wpAny_setItem_heap (hsz := hz) (show X.A.units + _ + 8 < cLine by show X.A.in1.units + 8 < cLine; have : X.A.in1.units = X.A.units + 1 := rfl; omega) (isk k b kb k8) dd fun h' dd' hs => ⟨σ, _, ?_, q3⟩
  obtain ⟨q, es', ep', g1, g2, g3, g4, _, g5⟩ := dd'
  refine d_write I3 (by rw [hp]; exact True.intro) hs ⟨q, g1⟩ (NOk.obj ⟨?_, hd, _, pn_stored rel rv, q, es', ep', g1, g2, g3, g4, g5⟩)
  have := storedV_len xs k b v
  omega
/-! data as keys -/
mutual
def keyN : D → Option NestedKey
  | .non => some .none
  | .int i => some (.num i)
  | .str x => some (.text x)
  | .tup ds => (match keyNL ds with
    | some ks => some (.tup ks)
    | none => none)
  | _ => none
def keyNL : List D → Option (List NestedKey)
  | [] => some []
  | d :: ds => (match keyN d, keyNL ds with
    | some k, some ks => some (k :: ks)
    | _, _ => none)
end
mutual
theorem keyN_data : ∀ {d : D} {k : NestedKey}, keyN d = some k → toPy d = k.data ∧ isData d = true
  | .non, k, h => by
    simp only [keyN, Option.some.injEq] at h
    subst h
    exact ⟨by simp [toPy, NestedKey.data], rfl⟩
  | .int i, k, h => by
    simp only [keyN, Option.some.injEq] at h
    subst h
    exact ⟨by simp [toPy, NestedKey.data], rfl⟩
  | .str x, k, h => by
    simp only [keyN, Option.some.injEq] at h
    subst h
    exact ⟨by simp [toPy, NestedKey.data], rfl⟩
  | .tup ds, k, h => by
    unfold keyN at h
    cases q : keyNL ds with
    | none => rw [q] at h; cases h
    | some ks =>
      rw [q] at h
      cases h
      obtain ⟨a, b⟩ := keyNL_data q
      exact ⟨by rw [toPy, NestedKey.data, a], by rw [isData]; exact b⟩
  | .bl _, k, h => by simp [keyN] at h
  | .lst _, k, h => by simp [keyN] at h
  | .src _, k, h => by simp [keyN] at h
  | .dic _ _, k, h => by simp [keyN] at h
  | .exc _, k, h => by simp [keyN] at h
  | .fn _, k, h => by simp [keyN] at h
  | .ol _, k, h => by simp [keyN] at h
  | .ol2 _, k, h => by simp [keyN] at h
  | .od _ _, k, h => by simp [keyN] at h
  | .oi _ _ _, k, h => by simp [keyN] at h
  | .odT _ _, k, h => by simp [keyN] at h
  | .odN _ _, k, h => by simp [keyN] at h
  | .kt _, k, h => by simp [keyN] at h
  | .row _, k, h => by simp [keyN] at h
  | .ob _, k, h => by simp [keyN] at h
  | .inst _ _ _, k, h => by simp [keyN] at h
  | .tab _, k, h => by simp [keyN] at h
theorem keyNL_data : ∀ {ds : List D} {ks : List NestedKey}, keyNL ds = some ks → toPyL ds = NestedKey.datas ks ∧ isDataL ds = true
  | [], ks, h => by
    simp only [keyNL, Option.some.injEq] at h
    subst h
    exact ⟨by simp [toPyL, NestedKey.datas], rfl⟩
  | d :: ds, ks, h => by
    unfold keyNL at h
    cases q1 : keyN d with
    | none => rw [q1] at h; cases h
    | some k =>
      cases q2 : keyNL ds with
      | none => rw [q1, q2] at h; cases h
      | some ks' =>
        rw [q1, q2] at h
        cases h
        obtain ⟨a, b⟩ := keyN_data q1
        obtain ⟨a2, b2⟩ := keyNL_data q2
        exact ⟨by rw [toPyL, NestedKey.datas, a, a2], by rw [isDataL, b, b2]; rfl⟩
end
def repN (κ : NestedKey) (d : D) : List NestedKey → List D → List D
  | k :: ks, x :: xs => (if k = κ then d else x) :: repN κ d ks xs
  | _, xs => xs
def isTupD : D → Bool
  | .tup _ => true
  | _ => false
def putNs (ks : List NestedKey) (ds : List D) (κ : NestedKey) (d : D) : D := if (ks.any fun k => decide (k = κ)) = true then .odN ks (repN κ d ks ds) else .odN (ks ++ [κ]) (ds ++ [d])
def sPutN (i : Nat) (fk fv : DE) : DS := fun σ => (fv σ).toOut σ fun d => match σ[i]? with
  | some (some (.odN ks ds)) => (fk σ).toOut σ fun kd => (match keyN kd with
    | some κ => if isTupD kd = true ∧ κ.depth ≤ 8 ∧ ks.length < sizeLine then .next (σ.set i (some (putNs ks ds κ d))) else .stuck
    | none => .stuck)
  | _ => .stuck
theorem rep_map {B : Bd} {G : Hp} {κ : NestedKey} {d : D} {v : V} (r : Rep B G d v) : ∀ (xs : List (NestedKey × Addr × V)) {ds : List D}, RepL B G ds (xs.map (·.2.2)) → RepL B G (repN κ d (xs.map (·.1)) ds) ((xs.map fun x => if x.1 = κ then (x.1, x.2.1, v) else x).map (·.2.2))
  | [], ds, h => by cases ds <;> exact h
  | x :: xs, [], h => nomatch (show _ = _ from h)
  | x :: xs, d0 :: ds, h => by
    obtain ⟨u, w, e, h1, h2⟩ := h
    rw [List.map_cons, List.cons.injEq] at e
    obtain ⟨rfl, rfl⟩ := e
    refine ⟨_, _, rfl, ?_, rep_map r xs h2⟩
    by_cases c : x.1 = κ
    · simp only [if_pos c]; exact r
    · simp only [if_neg c]; exact h1
theorem sd_putN {o : Expr} {i : Nat} (hu : Rm X) (ho : PE X o (tVar i)) (hk : ED X W e fk) (hv : ED X W vx fv) (hs : swapsWith vx (some (.Subscript o e pos')) pos.line X.env = pure false := by rfl) : SD X W (.Assign [.Subscript o e pos'] vx pos) (sPutN i fk fv) :=
  ps_imp (ps_dputN (by exact hu) ho hk hv hs) fun Dn σ H ⟨Oc, Om, σd, s, h⟩ => by
    refine toOut_seq s h fun d v H1 e1 r s1 h1 => ?_
    split at h1
    · rename_i ks ds hx
      obtain ⟨p, xs, k1, _, _, _, _, _, _⟩ := s1.ownN hx
      refine ⟨.ref p, k1, ?_⟩
      refine toOut_seq s1 h1 fun kd y H2 e2 r2 s2 h2 => ?_
      obtain ⟨p', xs', k1', hp, ek, hkd, pm, rl, wr⟩ := s2.ownN hx
      rw [k1] at k1'
      cases k1'
      cases hkk : keyN kd with
      | none => rw [hkk] at h2; exact h2.elim
      | some κ =>
        rw [hkk] at h2
        replace h2 : (if isTupD kd = true ∧ κ.depth ≤ 8 ∧ ks.length < sizeLine then Out.next (σd.set i (some (putNs ks ds κ d))) else .stuck).all (bdOf X) W Oc Om H2 Dn := h2
        by_cases hc : isTupD kd = true ∧ κ.depth ≤ 8 ∧ ks.length < sizeLine
        case neg => rw [if_neg hc] at h2; exact h2.elim
        rw [if_pos hc] at h2
        obtain ⟨ht, h8, hl⟩ := hc
        obtain ⟨ed, isd⟩ := keyN_data hkk
        have dk := Rep.dp r2 isd
        rw [ed] at dk
        obtain ⟨b, rfl⟩ : ∃ b, y = .ref b := by
          cases kd <;> first | (cases ht; done) | skip
          obtain ⟨a, vs, h1, _⟩ := rep_sq r2
          exact ⟨a, h1⟩
        have rv : Rep (bdOf X) (fz H2 Oc Om) d v := r.mono (same_minus e2)
        have sb : Same (fz H2 Oc Om) H2 := minus_sub
        have hl' : xs'.length < sizeLine := by rw [ek, List.length_map] at hl; exact hl
        refine ⟨p, b, xs', κ, rfl, rfl, hp, fun x hx => ⟨dp_same sb (hkd x hx).1, (hkd x hx).2⟩, dp_same sb dk, h8, hl', ?_⟩
        have key : putNs ks ds κ d = .odN ((storedV xs' κ b v).map (·.1)) (if (ks.any fun k => decide (k = κ)) = true then repN κ d ks ds else ds ++ [d]) := by
          unfold putNs storedV
          have e3 : (xs'.any fun x => decide (x.1 = κ)) = ks.any fun k => decide (k = κ) := by rw [ek, List.any_map]; rfl
          rw [e3]
          split
          · congr 1
            rw [ek, List.map_map]
            refine List.map_congr_left fun x _ => ?_
            by_cases c : x.1 = κ
            · simp [c]
            · simp [c]
          · rw [ek]
            simp
        rw [key] at h2
        refine h2 σ Om _ (wr (storedV xs' κ b v) _ (fun x hx => ?_) ?_) (ext_w pm)
        · unfold storedV at hx
          split at hx
          · obtain ⟨y, hy, rfl⟩ := List.mem_map.mp hx
            by_cases c : y.1 = κ
            · simp only [if_pos c]; exact hkd y hy
            · simp only [if_neg c]; exact hkd y hy
          · rcases List.mem_append.mp hx with q | q
            · exact hkd x q
            · rw [List.mem_singleton] at q
              subst q
              exact ⟨dk, h8⟩
        · unfold storedV
          have e3 : (xs'.any fun x => decide (x.1 = κ)) = ks.any fun k => decide (k = κ) := by rw [ek, List.any_map]; rfl
          rw [e3]
          split
          · rw [ek]
            exact rep_map rv xs' rl
          · rw [List.map_append]
            exact rl.append (.cons rv .nil)
    · exact h1.elim
end
end FF
set_option maxHeartbeats 4000000
/-! k in x, x a dict with keys of any depth -/
namespace FF
open PySem PySem.Spec PyProof.Rows L2
section
variable {X : Cx} {W : WX} {a b : Expr} {fk : DE} {pos : Pos}
theorem nok_dict {pins : List (Addr × Obj)} {σ : L2.St} {H : Hp} {s : Shared} {p : Addr} {xs : List (NestedKey × Addr × V)} (I : Inv X pins σ H s) (hp : H p = some (NDictO X.prog X.w p xs)) (kd : ∀ x ∈ xs, Dp X.K H (.ref x.2.1) x.1.data ∧ x.1.depth ≤ 8) :
    ∃ zs : List (NestedKey × Addr × Value), Paired PN xs zs ∧ s.heap.DictOfH (nestedKind X.prog X.w) p zs ∧ (p == sysModules) = false := by
  obtain ⟨z, hd, zs, rel, o, es, ep, h1, h2, h3, h4, h5⟩ := (I.hok p _ hp).1
  refine ⟨zs, rel, ⟨o, es, ep, h1, h2, h3, h4, fun z hz => ?_, h5⟩, hd⟩
  obtain ⟨x, hx, e1, e2⟩ := pn_mem rel z hz
  rw [← e1, ← e2]
  obtain ⟨as, ra⟩ := Dp.reads I _ _ (Value.ref x.2.1) (kd x hx).1 rfl
  exact ⟨reads_nested _ ra, (kd x hx).2⟩
def tInN (K : PySem.W.Frag) (prog : Program) (w : World) (neg : Bool) (ti tD : TE) : TE := fun σ H Q => ti σ H fun y H1 => tD σ H1 fun x H2 => ∃ p q xs k, x = .ref p ∧ y = .ref q ∧ H2 p = some (NDictO prog w p xs) ∧ (∀ x ∈ xs, Dp K H2 (.ref x.2.1) x.1.data ∧ x.1.depth ≤ 8) ∧
  Dp K H2 (.ref q) k.data ∧ k.depth ≤ 8 ∧ Q (.bl (neg != xs.any fun x => decide (x.1 = k))) H2
theorem pc_inN {i o : Expr} {ty td : TE} (hu : X.A.units + 200 < cLine) (hi : PE X i ty) (ho : PE X o td) : PC X .In i o (tInN X.K X.prog X.w false ty td) := by
  refine ⟨fun pins s σ H Q I h => ?_⟩
  refine thn (hi.run pins s σ H _ I h) fun iv s1 ⟨y, H1, I1, ry, q1⟩ => thn (ho.run pins s1 σ H1 _ I1 q1) fun u s2 ⟨x, H2, I2, rx, p, q, xs, k, ex, ey, hp, kd, kb, k8, q2⟩ => ?_
  subst ex
  subst ey
  obtain rfl : u = Value.ref p := rx
  obtain rfl : iv = Value.ref q := ry
  obtain ⟨zs, rel, dd, hd⟩ := nok_dict I2 hp kd
  obtain ⟨as, ra⟩ := Dp.reads I2 _ _ (Value.ref q) kb rfl
  refine wpAny_in_heap (show X.A.in1.units + 8 < cLine by have : X.A.in1.units = X.A.units + 1 := rfl; omega) (show (nestedKind X.prog X.w).is s2.heap k q from ⟨reads_nested _ ra, k8⟩) hd dd ?_
  rw [pn_any rel] at q2
  refine ⟨.bl (atKey zs k).isSome, H2, I2.tok _, rfl, ?_⟩
  have e : (false != (atKey zs k).isSome) = (atKey zs k).isSome := by cases (atKey zs k).isSome <;> rfl
  rw [← e]
  exact q2
theorem pc_notInN {i o : Expr} {ty td : TE} (hu : X.A.units + 200 < cLine) (hi : PE X i ty) (ho : PE X o td) : PC X .NotIn i o (tInN X.K X.prog X.w true ty td) := by
  refine ⟨fun pins s σ H Q I h => ?_⟩
  refine thn (hi.run pins s σ H _ I h) fun iv s1 ⟨y, H1, I1, ry, q1⟩ => thn (ho.run pins s1 σ H1 _ I1 q1) fun u s2 ⟨x, H2, I2, rx, p, q, xs, k, ex, ey, hp, kd, kb, k8, q2⟩ => ?_
  subst ex
  subst ey
  obtain rfl : u = Value.ref p := rx
  obtain rfl : iv = Value.ref q := ry
  obtain ⟨zs, rel, dd, hd⟩ := nok_dict I2 hp kd
  obtain ⟨as, ra⟩ := Dp.reads I2 _ _ (Value.ref q) kb rfl
  refine notIn_keyed (show X.A.in1.units + 8 < cLine by have : X.A.in1.units = X.A.units + 1 := rfl; omega) (show (nestedKind X.prog X.w).is s2.heap k q from ⟨reads_nested _ ra, k8⟩) hd ⟨zs, dd, rfl⟩ ?_
  rw [pn_any rel] at q2
  refine ⟨.bl (!(valueAt (pairsH zs) k).isSome), H2, I2.tok _, rfl, ?_⟩
  rw [valueAt_pairsH, Option.isSome_map]
  have e : (true != (atKey zs k).isSome) = !(atKey zs k).isSome := by cases (atKey zs k).isSome <;> rfl
  rw [← e]
  exact q2
/-- k in x -/
def inNK (neg : Bool) (ks : List NestedKey) (kd : D) : R D := match keyN kd with
  | some κ => if isTupD kd = true ∧ κ.depth ≤ 8 then .ok (.bl (neg != ks.any fun k => decide (k = κ))) else .stuck
  | none => .stuck
def eInN (neg : Bool) (f : DE) (i : Nat) : DE := fun σ => f σ >>= fun kd => odNs σ[i]? fun ks _ => inNK neg ks kd
theorem inN_read {neg : Bool} {i : Nat} {σ : L2.St} {H : Hp} {Q : VK} (h : tD (bdOf X) W (eInN neg fk i) σ H Q) : tInN X.K X.prog X.w neg (tD (bdOf X) W fk) (tVar i) σ H Q := by
  obtain ⟨Oc, Om, σd, s, h⟩ := h
  refine tD_seq s h fun kd y H1 e1 r s1 h1 => ?_
  obtain ⟨ks, ds, hx, h2⟩ := odNs_post h1
  obtain ⟨p, xs, k1, hp, ek, hkd, pm, rl, _⟩ := s1.ownN hx
  refine ⟨.ref p, k1, ?_⟩
  unfold inNK at h2
  cases hkk : keyN kd with
  | none => rw [hkk] at h2; exact h2.elim
  | some κ =>
    rw [hkk] at h2
    by_cases hc : isTupD kd = true ∧ κ.depth ≤ 8
    case neg => simp only [if_neg hc] at h2; exact h2.elim
    simp only [if_pos hc] at h2
    obtain ⟨ht, h8⟩ := hc
    obtain ⟨ed, isd⟩ := keyN_data hkk
    have dk := Rep.dp r isd
    rw [ed] at dk
    obtain ⟨b, rfl⟩ : ∃ b, y = .ref b := by
      cases kd <;> first | (cases ht; done) | skip
      obtain ⟨a, vs, h1, _⟩ := rep_sq r
      exact ⟨a, h1⟩
    have sb : Same (fz H1 Oc Om) H1 := minus_sub
    refine ⟨p, b, xs, κ, rfl, rfl, hp, fun x hx => ⟨dp_same sb (hkd x hx).1, (hkd x hx).2⟩, dp_same sb dk, h8, ?_⟩
    have e3 : (xs.any fun x => decide (x.1 = κ)) = ks.any fun k => decide (k = κ) := by rw [ek, List.any_map]; rfl
    rw [e3]
    exact h2 _ H1 e1 rfl
theorem ed_inN {i : Nat} (hu : Rm X) (hk : ED X W a fk) (ho : PE X b (tVar i)) (hm : behindInMarks .In b = false := by rfl) : ED X W (.Compare a [.In] [b] pos) (eInN false fk i) :=
  pe_imp (pe_cmp (pc_inN (by exact hu) hk ho) hm) fun _ _ _ h => inN_read h
theorem ed_notInN {i : Nat} (hu : Rm X) (hk : ED X W a fk) (ho : PE X b (tVar i)) (hm : behindInMarks .NotIn b = false := by rfl) : ED X W (.Compare a [.NotIn] [b] pos) (eInN true fk i) :=
  pe_imp (pe_cmp (pc_notInN (by exact hu) hk ho) hm) fun _ _ _ h => inN_read h
theorem td_inN {i : Nat} (hu : Rm X) (hk : ED X W a fk) (ho : PE X b (tVar i)) (hm : behindInMarks .In b = false := by rfl) : TD X W (.Compare a [.In] [b] pos) (tB1 (eInN false fk i)) :=
  pt_imp (pt_cmp (pc_inN (by exact hu) hk ho) hm) fun _ _ _ h => asB_read (fun _ _ _ h => inN_read h) h
theorem td_notInN {i : Nat} (hu : Rm X) (hk : ED X W a fk) (ho : PE X b (tVar i)) (hm : behindInMarks .NotIn b = false := by rfl) : TD X W (.Compare a [.NotIn] [b] pos) (tB1 (eInN true fk i)) :=
  pt_imp (pt_cmp (pc_notInN (by exact hu) hk ho) hm) fun _ _ _ h => asB_read (fun _ _ _ h => inN_read h) h
end
end FF
set_option maxHeartbeats 4000000
/-! a store of objects beside the slots -/
namespace FF
open PySem PySem.Spec PyProof.Rows L2
/-! ### apart and together -/
section
variable {B : Bd} {G H : Hp}
theorem SlotsR.apart : ∀ {a b : Sd} {σ σ' : L2.St} {fp : List Addr}, a.length = σ.length → SlotsR B G H (a ++ b) (σ ++ σ') fp → ∃ f1 f2, fp = f1 ++ f2 ∧ SlotsR B G H a σ f1 ∧ SlotsR B G H b σ' f2
  | [], b, [], σ', fp, _, h => ⟨[], fp, rfl, ⟨rfl, rfl⟩, h⟩
  | [], _, _ :: _, _, _, hl, _ => by simp at hl
  | _ :: _, _, [], _, _, hl, _ => by simp at hl
  | d :: a, b, v :: σ, σ', fp, hl, h => by
    obtain ⟨v', r, f1, f2, h1, h2, h3, h4⟩ := h
    rw [List.cons_append] at h1
    injection h1 with e1 e2
    subst e1 e2 h2
    obtain ⟨g1, g2, e, k1, k2⟩ := SlotsR.apart (a := a) (by simpa using hl) h4
    subst e
    exact ⟨f1 ++ g1, g2, by simp, ⟨v, σ, f1, g1, rfl, rfl, h3, k1⟩, k2⟩
theorem SlotsR.both : ∀ {a b : Sd} {σ σ' : L2.St} {f1 f2 : List Addr}, SlotsR B G H a σ f1 → SlotsR B G H b σ' f2 → SlotsR B G H (a ++ b) (σ ++ σ') (f1 ++ f2)
  | [], b, σ, σ', f1, f2, h, h' => by
    obtain ⟨rfl, rfl⟩ := h
    exact h'
  | d :: a, b, σ, σ', f1, f2, h, h' => by
    obtain ⟨v, r, g1, g2, rfl, rfl, h3, h4⟩ := h
    exact ⟨v, r ++ σ', g1, g2 ++ f2, rfl, by simp, h3, SlotsR.both h4 h'⟩
end
theorem minus_congr {H : Hp} {O O' : List Addr} (h : ∀ a, a ∈ O ↔ a ∈ O') : minus H O = minus H O' := by
  funext a
  unfold minus
  simp only [h a]
section
variable {B : Bd} {Oc Om Oa Ob Oa' Ob' : List Addr} {a b a' b' : Sd} {σ σ' σ1 σ1' : L2.St} {H H' : Hp}
theorem SR.apart (s : SR B Oc Om (a ++ b) (σ ++ σ') H) (hl : a.length = σ.length) : ∃ Oa Ob, SR B (Ob ++ Oc) Oa a σ H ∧ SR B (Oa ++ Oc) Ob b σ' H ∧ (∀ x, x ∈ Om ↔ x ∈ Oa ∨ x ∈ Ob) ∧ ∀ x ∈ Oa, x ∉ Ob := by
  obtain ⟨h1, fp, h2, h3, h4⟩ := s
  obtain ⟨f1, f2, rfl, k1, k2⟩ := SlotsR.apart hl h2
  obtain ⟨Oa, hO⟩ : ∃ Oa : List Addr, ∀ x, x ∈ Oa ↔ x ∈ Om ∧ x ∉ f2 := ⟨Om.filter fun x => decide (x ∉ f2), fun x => by simp [List.mem_filter]⟩
  have hm : ∀ x, x ∈ Om ↔ x ∈ Oa ∨ x ∈ f2 := fun x => by
    rw [hO x]
    by_cases q : x ∈ f2
    · simp [q, (h4 x (by simp [q])).1]
    · simp [q]
  obtain ⟨n1, n2, n3⟩ := List.nodup_append.mp h3
  have ea : minus H (f2 ++ Oc ++ Oa) = minus H (Oc ++ Om) := minus_congr fun x => by
    simp only [List.mem_append, hm x]
    constructor
    · rintro ((z | z) | z)
      · exact .inr (.inr z)
      · exact .inl z
      · exact .inr (.inl z)
    · rintro (z | z | z)
      · exact .inl (.inr z)
      · exact .inr z
      · exact .inl (.inl z)
  have eb : minus H (Oa ++ Oc ++ f2) = minus H (Oc ++ Om) := minus_congr fun x => by
    simp only [List.mem_append, hm x]
    constructor
    · rintro ((z | z) | z)
      · exact .inr (.inl z)
      · exact .inl z
      · exact .inr (.inr z)
    · rintro (z | z | z)
      · exact .inl (.inr z)
      · exact .inl (.inl z)
      · exact .inr z
  have al : ∀ x, x ∈ Oc ∨ x ∈ Oa ∨ x ∈ f2 → H x ≠ none := fun x hx => h1 x (by
    rw [List.mem_append, hm x]; exact hx)
  refine ⟨Oa, f2, ⟨fun x hx => al x ?_, f1, ?_, n1, fun x hx => ⟨?_, ?_⟩⟩, ⟨fun x hx => al x ?_, f2, ?_, n2, fun x hx => ⟨hx, ?_⟩⟩, hm, fun x hx => ((hO x).mp hx).2⟩
  · simp only [List.mem_append] at hx
    rcases hx with (z | z) | z
    · exact .inr (.inr z)
    · exact .inl z
    · exact .inr (.inl z)
  · rw [ea]; exact k1
  · exact (hO x).mpr ⟨(h4 x (by simp [hx])).1, fun z => n3 x hx x z rfl⟩
  · intro z
    rcases List.mem_append.mp z with z | z
    · exact n3 x hx x z rfl
    · exact (h4 x (by simp [hx])).2 z
  · simp only [List.mem_append] at hx
    rcases hx with (z | z) | z
    · exact .inr (.inl z)
    · exact .inl z
    · exact .inr (.inr z)
  · rw [eb]; exact k2
  · intro z
    rcases List.mem_append.mp z with z | z
    · exact ((hO x).mp z).2 hx
    · exact (h4 x (by simp [hx])).2 z
theorem SR.both (sa : SR B (Ob ++ Oc) Oa a σ H) (sb : SR B (Oa ++ Oc) Ob b σ' H) : SR B Oc (Oa ++ Ob) (a ++ b) (σ ++ σ') H := by
  obtain ⟨h1, f1, h2, h3, h4⟩ := sa
  obtain ⟨g1, f2, g2, g3, g4⟩ := sb
  refine ⟨fun x hx => ?_, f1 ++ f2, SlotsR.both ?_ ?_, List.nodup_append.mpr ⟨h3, g3, fun x hx y hy e => ?_⟩, fun x hx => ?_⟩
  · simp only [List.mem_append] at hx
    rcases hx with z | z | z
    · exact h1 x (by simp [z])
    · exact h1 x (by simp [z])
    · exact h1 x (by simp [z])
  · rw [minus_congr (O' := Ob ++ Oc ++ Oa)]
    · exact h2
    · intro x
      simp only [List.mem_append]
      constructor
      · rintro (z | z | z) <;> simp [z]
      · rintro ((z | z) | z) <;> simp [z]
  · rw [minus_congr (O' := Oa ++ Oc ++ Ob)]
    · exact g2
    · intro x
      simp only [List.mem_append]
      constructor
      · rintro (z | z | z) <;> simp [z]
      · rintro ((z | z) | z) <;> simp [z]
  · subst e
    exact (h4 x hx).2 (by simp [(g4 x hy).1])
  · rcases List.mem_append.mp hx with z | z
    · exact ⟨by simp [(h4 x z).1], fun q => (h4 x z).2 (by simp [q])⟩
    · exact ⟨by simp [(g4 x z).1], fun q => (g4 x z).2 (by simp [q])⟩
/-- what the other part does leaves this one -/
theorem SR.stay (sb : SR B (Oa ++ Oc) Ob b σ' H) (x : Ext Oa H Oa' H') (al : ∀ y ∈ Ob ++ Oc, H' y ≠ none) (al2 : ∀ y ∈ Oa', H' y ≠ none) (dj : ∀ y ∈ Oa, y ∉ Ob) : SR B (Oa' ++ Oc) Ob b σ' H' := by
  obtain ⟨g1, f2, g2, g3, g4⟩ := sb
  refine ⟨fun y hy => ?_, f2, SlotsR.keep (fun y o hy => ?_) (fun y hy o q => x.keep y o (fun z => (g4 y hy).2 (by simp [z])) q) g2, g3, fun y hy => ⟨(g4 y hy).1, fun z => ?_⟩⟩
  · simp only [List.mem_append] at hy
    rcases hy with (z | z) | z
    · exact al2 y z
    · exact al y (by simp [z])
    · exact al y (by simp [z])
  · obtain ⟨y1, y2⟩ := minus_some.mp hy
    simp only [List.mem_append, not_or] at y1
    obtain ⟨⟨p1, p2⟩, p3⟩ := y1
    refine minus_some.mpr ⟨?_, x.keep y o p1 y2⟩
    simp only [List.mem_append, not_or]
    refine ⟨⟨fun z => ?_, p2⟩, p3⟩
    rcases x.new y z with q | q
    · exact p1 q
    · rw [y2] at q; cases q
  · rcases List.mem_append.mp z with z | z
    · rcases x.new y z with q | q
      · exact (g4 y hy).2 (by simp [q])
      · exact g1 y (by simp [(g4 y hy).1]) q
    · exact (g4 y hy).2 (by simp [z])
theorem fzA : fz H (Ob ++ Oc) Oa = fz H Oc (Oa ++ Ob) := minus_congr fun x => by
  simp only [List.mem_append]
  constructor
  · rintro ((z | z) | z) <;> simp [z]
  · rintro (z | z | z) <;> simp [z]
theorem fzB : fz H (Oa ++ Oc) Ob = fz H Oc (Oa ++ Ob) := minus_congr fun x => by
  simp only [List.mem_append]
  constructor
  · rintro ((z | z) | z) <;> simp [z]
  · rintro (z | z | z) <;> simp [z]
theorem fzM {Om : List Addr} (h : ∀ x, x ∈ Om ↔ x ∈ Oa ∨ x ∈ Ob) : fz H Oc (Oa ++ Ob) = fz H Oc Om := minus_congr fun x => by
  simp only [List.mem_append, h x]
theorem Ext.alive {Om Om' : List Addr} (x : Ext Om H Om' H') {y : Addr} (h : H y ≠ none) (hm : y ∉ Om) : H' y ≠ none := by
  cases q : H y with
  | none => exact absurd q h
  | some o => rw [x.keep y o hm q]; exact fun z => nomatch z
/-- the first part changes -/
theorem SR.left (s : SR B Oc Om (a ++ b) (σ ++ σ') H) (hl : a.length = σ.length) : ∃ Oa Ob, SR B (Ob ++ Oc) Oa a σ H ∧ fz H (Ob ++ Oc) Oa = fz H Oc Om ∧
    ∀ a' σ1 Oa' H', SR B (Ob ++ Oc) Oa' a' σ1 H' → Ext Oa H Oa' H' → SR B Oc (Oa' ++ Ob) (a' ++ b) (σ1 ++ σ') H' ∧ Ext Om H (Oa' ++ Ob) H' := by
  obtain ⟨Oa, Ob, sa, sb, hm, dj⟩ := s.apart hl
  refine ⟨Oa, Ob, sa, fzA.trans (fzM hm), fun a' σ1 Oa' H' s' x => ⟨SR.both s' (sb.stay x (fun y hy => s'.1 y (by simp only [List.mem_append] at hy ⊢; exact .inl hy)) (fun y hy => s'.1 y (by simp [hy])) dj), fun y o hy q => x.keep y o (fun z => hy ((hm y).mpr (.inl z))) q, fun y hy => ?_⟩⟩
  rcases List.mem_append.mp hy with z | z
  · rcases x.new y z with q | q
    · exact .inl ((hm y).mpr (.inl q))
    · exact .inr q
  · exact .inl ((hm y).mpr (.inr z))
/-- the second part changes -/
theorem SR.right (s : SR B Oc Om (a ++ b) (σ ++ σ') H) (hl : a.length = σ.length) : ∃ Oa Ob, SR B (Oa ++ Oc) Ob b σ' H ∧ fz H (Oa ++ Oc) Ob = fz H Oc Om ∧
    ∀ b' σ1 Ob' H', SR B (Oa ++ Oc) Ob' b' σ1 H' → Ext Ob H Ob' H' → SR B Oc (Oa ++ Ob') (a ++ b') (σ ++ σ1) H' ∧ Ext Om H (Oa ++ Ob') H' := by
  obtain ⟨Oa, Ob, sa, sb, hm, dj⟩ := s.apart hl
  refine ⟨Oa, Ob, sb, fzB.trans (fzM hm), fun b' σ1 Ob' H' s' x => ⟨SR.both (SR.stay (Oa := Ob) (Oa' := Ob') sa x (fun y hy => s'.1 y (by simp only [List.mem_append] at hy ⊢; exact .inl hy)) (fun y hy => s'.1 y (by simp [hy])) fun y hy z => dj y z hy) s', fun y o hy q => x.keep y o (fun z => hy ((hm y).mpr (.inr z))) q, fun y hy => ?_⟩⟩
  rcases List.mem_append.mp hy with z | z
  · exact .inl ((hm y).mpr (.inl z))
  · rcases x.new y z with q | q
    · exact .inl ((hm y).mpr (.inr q))
    · exact .inr q
end
/-! ### the store -/
abbrev Store := List (Addr × D)
def stD (st : Store) : Sd := st.map fun x => some x.2
def stV (st : Store) : L2.St := st.map fun x => some (V.ref x.1)
theorem stD_append (a b : Store) : stD (a ++ b) = stD a ++ stD b := List.map_append
theorem stV_append (a b : Store) : stV (a ++ b) = stV a ++ stV b := List.map_append
theorem st_len (st : Store) : (stD st).length = (stV st).length := by simp [stD, stV]
def SRs (B : Bd) (Oc Om : List Addr) (σd : Sd) (st : Store) (σ : L2.St) (H : Hp) : Prop := SR B Oc Om (σd ++ stD st) (σ ++ stV st) H
abbrev StR (B : Bd) (Oc Om : List Addr) (st : Store) (H : Hp) : Prop := SR B Oc Om (stD st) (stV st) H
section
variable {B : Bd} {Oc Om : List Addr} {σd : Sd} {st : Store} {σ : L2.St} {H H' : Hp}
theorem SRs.len (s : SRs B Oc Om σd st σ H) : σd.length = σ.length := by
  have := SR.length s
  rw [List.length_append, List.length_append, st_len] at this
  omega
theorem SRs.same (s : SRs B Oc Om σd st σ H) (e : Same H H') : SRs B Oc Om σd st σ H' := SR.same s e
def lk (st : Store) (p : Addr) : Option D := match st with
  | [] => none
  | x :: r => if x.1 = p then some x.2 else lk r p
def upS (p : Addr) (d : D) : Store → Store
  | [] => []
  | x :: r => if x.1 = p then (p, d) :: r else x :: upS p d r
theorem lk_ix : ∀ {st : Store} {p : Addr} {d : D}, lk st p = some d → ∃ j, st[j]? = some (p, d) ∧ ∀ d', upS p d' st = st.set j (p, d')
  | [], _, _, h => by cases h
  | x :: r, p, d, h => by
    unfold lk at h
    by_cases q : x.1 = p
    · rw [if_pos q] at h
      cases h
      exact ⟨0, by rw [← q]; rfl, fun d' => by unfold upS; rw [if_pos q]; rfl⟩
    · rw [if_neg q] at h
      obtain ⟨j, h1, h2⟩ := lk_ix h
      exact ⟨j + 1, by simpa using h1, fun d' => by unfold upS; rw [if_neg q, h2]; rfl⟩
theorem lk_append {st tb : Store} {p : Addr} {d : D} (h : lk st p = some d) : lk (st ++ tb) p = some d := by
  induction st with
  | nil => cases h
  | cons x r ih =>
    rw [List.cons_append]
    unfold lk at h ⊢
    by_cases q : x.1 = p
    · rw [if_pos q] at h ⊢; exact h
    · rw [if_neg q] at h ⊢; exact ih h
theorem upS_append {st tb : Store} {p : Addr} {d d' : D} (h : lk st p = some d) : upS p d' (st ++ tb) = upS p d' st ++ tb := by
  induction st with
  | nil => cases h
  | cons x r ih =>
    rw [List.cons_append]
    unfold lk at h
    unfold upS
    by_cases q : x.1 = p
    · rw [if_pos q, if_pos q]; rfl
    · rw [if_neg q] at h ⊢
      rw [if_neg q, ih h]; rfl
/-- one entry apart, and how it may change -/
theorem SRs.entry {p : Addr} {d : D} (s : SRs B Oc Om σd st σ H) (h : lk st p = some d) : ∃ fp, OR B (fz H Oc Om) H d (.ref p) fp ∧ (∀ a ∈ fp, a ∈ Om ∧ a ∉ Oc) ∧ fp.Nodup ∧
    ∀ d' fp' H' Om', OR B (fz H' Oc Om') H' d' (.ref p) fp' → (∀ b, b ∉ fp → ∀ o, H b = some o → H' b = some o) → (∀ a ∈ Om', a ∈ Om ∨ H a = none) → (∀ a ∈ Om, a ∈ Om') → fp'.Nodup → (∀ a ∈ fp', a ∈ fp ∨ H a = none) →
      (∀ a ∈ fp', a ∈ Om') → (∀ a ∈ Oc ++ Om', H' a ≠ none) → SRs B Oc Om' σd (upS p d' st) σ H' := by
  have hl := s.len
  obtain ⟨j, hj, hu⟩ := lk_ix h
  obtain ⟨h1, fp, h2, h3, h4⟩ := s
  have hD : (σd ++ stD st)[σd.length + j]? = some (some d) := by
    rw [List.getElem?_append_right (by omega)]
    simp [stD, hj]
  obtain ⟨f1, f, f2, v, e1, e2, ⟨x, rfl, e3⟩, e4⟩ := h2.focus hD
  have hV : (σ ++ stV st)[σd.length + j]? = some (some (V.ref p)) := by
    rw [hl, List.getElem?_append_right (by omega)]
    simp [stV, hj]
  rw [hV] at e2
  cases e2
  subst e1
  obtain ⟨n1, n2, n3⟩ := List.nodup_append.mp h3
  obtain ⟨n4, n5, n6⟩ := List.nodup_append.mp n2
  refine ⟨f, e3, fun a ha => h4 a (by simp [ha]), n4, fun d' fp' H' Om' r keep new sub nd newf inm al => ?_⟩
  have mono : Same (fz H Oc Om) (fz H' Oc Om') := fun a o ha => by
    obtain ⟨a1, a2⟩ := minus_some.mp ha
    rw [List.mem_append, not_or] at a1
    refine minus_some.mpr ⟨?_, keep a (fun z => a1.2 (h4 a (by simp [z])).1) o a2⟩
    rw [List.mem_append, not_or]
    refine ⟨a1.1, fun z => ?_⟩
    rcases new a z with q | q
    · exact a1.2 q
    · rw [a2] at q; cases q
  have nf1 : ∀ a ∈ f1, a ∉ f := fun a ha z => n3 a ha a (by simp [z]) rfl
  have nf2 : ∀ a ∈ f2, a ∉ f := fun a ha z => n6 a z a ha rfl
  have q := e4 (fz H' Oc Om') H' (some d') (some (.ref p)) fp' mono (fun a ha o z => keep a (fun w => by
    rcases List.mem_append.mp ha with y | y
    · exact nf1 a y w
    · exact nf2 a y w) o z) ⟨_, rfl, r⟩
  have hal : ∀ a ∈ f1 ++ f2, a ∈ Om := fun a ha => by
    rcases List.mem_append.mp ha with y | y
    · exact (h4 a (by simp [y])).1
    · exact (h4 a (by simp [y])).1
  have hno : ∀ a ∈ f1 ++ f2, a ∉ fp' := fun a ha z => by
    rcases newf a z with w | w
    · rcases List.mem_append.mp ha with y | y
      · exact nf1 a y w
      · exact nf2 a y w
    · exact h1 a (by simp [hal a ha]) w
  have eD : (σd ++ stD st).set (σd.length + j) (some d') = σd ++ stD (upS p d' st) := by
    rw [hu, List.set_append_right _ _ (by omega)]
    simp [stD, List.map_set]
  have eV : (σ ++ stV st).set (σd.length + j) (some (V.ref p)) = σ ++ stV (upS p d' st) := by
    rw [hu, hl, List.set_append_right _ _ (by omega)]
    simp [stV, List.map_set]
  rw [eD, eV] at q
  refine ⟨al, _, q, ?_, fun a ha => ?_⟩
  · refine List.nodup_append.mpr ⟨n1, List.nodup_append.mpr ⟨nd, n5, fun a ha b hb e => ?_⟩, fun a ha b hb e => ?_⟩
    · subst e; exact hno a (by simp [hb]) ha
    · subst e
      rcases List.mem_append.mp hb with y | y
      · exact hno a (by simp [ha]) y
      · exact n3 a ha a (by simp [y]) rfl
  · rcases List.mem_append.mp ha with y | y
    · exact ⟨sub a (hal a (by simp [y])), (h4 a (by simp [y])).2⟩
    · rcases List.mem_append.mp y with y | y
      · refine ⟨inm a y, fun z => ?_⟩
        rcases newf a y with w | w
        · exact (h4 a (by simp [w])).2 z
        · exact h1 a (by simp [z]) w
      · exact ⟨sub a (hal a (by simp [y])), (h4 a (by simp [y])).2⟩
/-- a new entry -/
theorem SRs.add {p : Addr} {d : D} {fp : List Addr} (s : SRs B Oc Om σd st σ H) (e : Same H H') (hn : ∀ a ∈ fp, H a = none) (al : ∀ a ∈ fp, H' a ≠ none) (nd : fp.Nodup) (r : OR B (fz H' Oc (fp ++ Om)) H' d (.ref p) fp) :
    SRs B Oc (fp ++ Om) σd ((p, d) :: st) σ H' := by
  have hl := s.len
  obtain ⟨h1, f, h2, h3, h4⟩ := s
  obtain ⟨f1, f2, rfl, k1, k2⟩ := SlotsR.apart hl h2
  have mono : Same (fz H Oc Om) (fz H' Oc (fp ++ Om)) := fun a o ha => by
    obtain ⟨a1, a2⟩ := minus_some.mp ha
    refine minus_some.mpr ⟨fun z => a1 ?_, e a o a2⟩
    simp only [List.mem_append] at z ⊢
    rcases z with z | z | z
    · exact .inl z
    · rw [hn a z] at a2; cases a2
    · exact .inr z
  have no : ∀ a ∈ f1 ++ f2, a ∉ fp := fun a ha z => h1 a (by simp [(h4 a ha).1]) (hn a z)
  obtain ⟨n1, n2, n3⟩ := List.nodup_append.mp h3
  refine ⟨fun a ha => ?_, f1 ++ (fp ++ f2), ?_, ?_, fun a ha => ?_⟩
  · simp only [List.mem_append] at ha
    rcases ha with z | z | z
    · exact Same.ne e (h1 a (by simp [z]))
    · exact al a z
    · exact Same.ne e (h1 a (by simp [z]))
  · refine SlotsR.both (SlotsR.keep mono (fun a _ o q => e a o q) k1) ?_
    exact ⟨_, _, fp, f2, rfl, rfl, ⟨_, rfl, r⟩, SlotsR.keep mono (fun a _ o q => e a o q) k2⟩
  · refine List.nodup_append.mpr ⟨n1, List.nodup_append.mpr ⟨nd, n2, fun a ha b hb q => ?_⟩, fun a ha b hb q => ?_⟩
    · subst q; exact no a (by simp [hb]) ha
    · subst q
      rcases List.mem_append.mp hb with y | y
      · exact no a (by simp [ha]) y
      · exact n3 a ha a y rfl
  · rcases List.mem_append.mp ha with y | y
    · exact ⟨by simp [(h4 a (by simp [y])).1], (h4 a (by simp [y])).2⟩
    · rcases List.mem_append.mp y with y | y
      · exact ⟨by simp [y], fun z => h1 a (by simp [z]) (hn a y)⟩
      · exact ⟨by simp [(h4 a (by simp [y])).1], (h4 a (by simp [y])).2⟩
end
/-! ### runs that may lay new objects -/
inductive T (β : Type) where
  | fin (b : β) | new (k : Addr → T β) | no
def T.all {β : Type} (P : β → Prop) : T β → Prop
  | .fin b => P b
  | .new k => ∀ p, (k p).all P
  | .no => True
def T.bind {β γ : Type} : T β → (β → T γ) → T γ
  | .fin b, f => f b
  | .new k, f => .new fun p => (k p).bind f
  | .no, _ => .no
@[simp] theorem T.fin_bind {β γ : Type} (b : β) (f : β → T γ) : (T.fin b).bind f = f b := rfl
@[simp] theorem T.no_bind {β γ : Type} (f : β → T γ) : (T.no : T β).bind f = .no := rfl
@[simp] theorem T.new_bind {β γ : Type} (k : Addr → T β) (f : β → T γ) : (T.new k).bind f = .new fun p => (k p).bind f := rfl
@[simp] theorem T.all_fin {β : Type} (P : β → Prop) (b : β) : (T.fin b).all P = P b := rfl
@[simp] theorem T.all_no {β : Type} (P : β → Prop) : (T.no : T β).all P = True := rfl
@[simp] theorem T.all_new {β : Type} (P : β → Prop) (k : Addr → T β) : (T.new k).all P = ∀ p, (k p).all P := rfl
theorem T.all_bind {β γ : Type} {P : γ → Prop} {f : β → T γ} : ∀ {t : T β}, (t.bind f).all P ↔ t.all fun b => (f b).all P
  | .fin b => Iff.rfl
  | .new k => forall_congr' fun p => T.all_bind
  | .no => Iff.rfl
theorem T.all_imp {β : Type} {P Q : β → Prop} (h : ∀ b, P b → Q b) : ∀ {t : T β}, t.all P → t.all Q
  | .fin b, q => h b q
  | .new k, q => fun p => T.all_imp h (q p)
  | .no, _ => trivial
theorem T.bind_assoc {α β γ : Type} {f : α → T β} {g : β → T γ} : ∀ {t : T α}, (t.bind f).bind g = t.bind fun a => (f a).bind g
  | .fin b => rfl
  | .new k => by
    show T.new _ = T.new _
    congr 1
    funext p
    exact T.bind_assoc
  | .no => rfl
abbrev MR (α : Type) := T (R α × Store)
def bindM {α β : Type} (t : MR α) (k : α → Store → MR β) : MR β := t.bind fun r => match r with
  | (.ok a, st) => k a st
  | (.exc c, st) => .fin (.exc c, st)
  | (.stuck, st) => .fin (.stuck, st)
abbrev MO := T (Out × Store)
def bindO {α : Type} (t : MR α) (σ : Sd) (k : α → Store → MO) : MO := t.bind fun r => match r with
  | (.ok a, st) => k a st
  | (.exc c, st) => .fin (.exc c σ, st)
  | (.stuck, st) => .fin (.stuck, st)
@[simp] theorem bindM_ok {α β : Type} (a : α) (st : Store) (k : α → Store → MR β) : bindM (.fin (.ok a, st)) k = k a st := rfl
@[simp] theorem bindM_exc {α β : Type} (c : Str) (st : Store) (k : α → Store → MR β) : bindM (.fin (.exc c, st)) k = .fin (.exc c, st) := rfl
@[simp] theorem bindM_stuck {α β : Type} (st : Store) (k : α → Store → MR β) : bindM (.fin (.stuck, st)) k = .fin (.stuck, st) := rfl
@[simp] theorem bindM_new {α β : Type} (f : Addr → MR α) (k : α → Store → MR β) : bindM (.new f) k = .new fun p => bindM (f p) k := rfl
@[simp] theorem bindM_no {α β : Type} (k : α → Store → MR β) : bindM .no k = .no := rfl
@[simp] theorem bindO_ok {α : Type} (a : α) (σ : Sd) (st : Store) (k : α → Store → MO) : bindO (.fin (.ok a, st)) σ k = k a st := rfl
@[simp] theorem bindO_exc {α : Type} (c : Str) (σ : Sd) (st : Store) (k : α → Store → MO) : bindO (.fin (.exc c, st)) σ k = .fin (.exc c σ, st) := rfl
@[simp] theorem bindO_stuck {α : Type} (σ : Sd) (st : Store) (k : α → Store → MO) : bindO (.fin (.stuck, st)) σ k = .fin (.stuck, st) := rfl
@[simp] theorem bindO_new {α : Type} (f : Addr → MR α) (σ : Sd) (k : α → Store → MO) : bindO (.new f) σ k = .new fun p => bindO (f p) σ k := rfl
@[simp] theorem bindO_no {α : Type} (σ : Sd) (k : α → Store → MO) : bindO .no σ k = .no := rfl
abbrev ME := Sd → Store → MR D
abbrev MT := Sd → Store → MR Bool
abbrev MA := Sd → Store → MR (List D)
abbrev MS := Sd → Store → MO
/-! ### what is wanted -/
def wX {α β : Type} (rel : Hp → α → β → Prop) (B : Bd) (W : WX) (tb : Store) (Oc Om : List Addr) (H : Hp) (σd : Sd) (σ : L2.St) (Q : β → Hp → Prop) : R α × Store → Prop
  | (.ok d, st) => ∀ v H' Om', SRs B Oc Om' σd (st ++ tb) σ H' → Ext Om H Om' H' → rel (fz H' Oc Om') d v → Q v H'
  | (.exc c, st) => ∀ C H' Om', B.mg c = some (.ref C) → SRs B Oc Om' σd (st ++ tb) σ H' → Ext Om H Om' H' → W (.ref C) none σ H'
  | (.stuck, _) => False
theorem wX.ext {α β : Type} {rel : Hp → α → β → Prop} {B : Bd} {W : WX} {tb : Store} {Oc Om Om1 : List Addr} {H H1 : Hp} {σd : Sd} {σ : L2.St} {Q : β → Hp → Prop} {r : R α × Store} (x : Ext Om H Om1 H1) (h : wX rel B W tb Oc Om H σd σ Q r) : wX rel B W tb Oc Om1 H1 σd σ Q r := by
  obtain ⟨r, st⟩ := r
  cases r with
  | ok d => exact fun v H' Om' s y r => h v H' Om' s (x.trans y) r
  | exc c => exact fun C H' Om' hc s y => h C H' Om' hc s (x.trans y)
  | stuck => exact h
def tX {α β : Type} (rel : Hp → α → β → Prop) (B : Bd) (W : WX) (tb : Store) (f : Sd → Store → MR α) : L2.St → Hp → (β → Hp → Prop) → Prop := fun σ H Q => ∃ Oc Om σd st, SRs B Oc Om σd (st ++ tb) σ H ∧ (f σd st).all (wX rel B W tb Oc Om H σd σ Q)
abbrev relB : Hp → Bool → Bool → Prop := fun _ a b => b = a
abbrev tM (B : Bd) (W : WX) (tb : Store) (f : ME) : TE := tX (Rep B) B W tb f
abbrev tMT (B : Bd) (W : WX) (tb : Store) (f : MT) : TT := tX relB B W tb f
abbrev tMA (B : Bd) (W : WX) (tb : Store) (f : MA) : TA := tX (RepL B) B W tb f
abbrev EM (tb : Store) (X : Cx) (W : WX) (e : Expr) (f : ME) : Prop := PE X e (tM (bdOf X) W tb f)
abbrev TM (tb : Store) (X : Cx) (W : WX) (e : Expr) (f : MT) : Prop := PT X e (tMT (bdOf X) W tb f)
abbrev AM (tb : Store) (X : Cx) (W : WX) (es : List Expr) (f : MA) : Prop := PA X es (tMA (bdOf X) W tb f)
def wO (B : Bd) (W : WX) (tb : Store) (Oc Om : List Addr) (H : Hp) (Dn : L2.Ends) : Out × Store → Prop
  | (.next σd, st) => ∀ σ' Om' H', SRs B Oc Om' σd (st ++ tb) σ' H' → Ext Om H Om' H' → Dn.nx σ' H'
  | (.ret d σd, st) => ∀ v σ' Om' H', SRs B Oc Om' σd (st ++ tb) σ' H' → Ext Om H Om' H' → Rep B (fz H' Oc Om') d v → Dn.rt v H'
  | (.brk σd, st) => ∀ σ' Om' H', SRs B Oc Om' σd (st ++ tb) σ' H' → Ext Om H Om' H' → Dn.bk σ' H'
  | (.cont σd, st) => ∀ σ' Om' H', SRs B Oc Om' σd (st ++ tb) σ' H' → Ext Om H Om' H' → Dn.ct σ' H'
  | (.exc c σd, st) => ∀ C σ' Om' H', B.mg c = some (.ref C) → SRs B Oc Om' σd (st ++ tb) σ' H' → Ext Om H Om' H' → W (.ref C) none σ' H'
  | (.stuck, _) => False
theorem wO.ext {B : Bd} {W : WX} {tb : Store} {Oc Om Om1 : List Addr} {H H1 : Hp} {Dn : L2.Ends} {r : Out × Store} (x : Ext Om H Om1 H1) (h : wO B W tb Oc Om H Dn r) : wO B W tb Oc Om1 H1 Dn r := by
  obtain ⟨r, st⟩ := r
  cases r with
  | next σ1 => exact fun σ' Om' H' s y => h σ' Om' H' s (x.trans y)
  | ret d σ1 => exact fun v σ' Om' H' s y r => h v σ' Om' H' s (x.trans y) r
  | brk σ1 => exact fun σ' Om' H' s y => h σ' Om' H' s (x.trans y)
  | cont σ1 => exact fun σ' Om' H' s y => h σ' Om' H' s (x.trans y)
  | exc c σ1 => exact fun C σ' Om' H' hc s y => h C σ' Om' H' hc s (x.trans y)
  | stuck => exact h
def tO (B : Bd) (W : WX) (tb : Store) (g : MS) : TS := fun Dn σ H => ∃ Oc Om σd st, SRs B Oc Om σd (st ++ tb) σ H ∧ (g σd st).all (wO B W tb Oc Om H Dn)
abbrev SM (tb : Store) (X : Cx) (W : WX) (s : Stmt) (g : MS) : Prop := PS X s (tO (bdOf X) W tb g)
abbrev SMs (tb : Store) (X : Cx) (W : WX) (s : List Stmt) (g : MS) : Prop := PSs X s (tO (bdOf X) W tb g)
section
variable {B : Bd} {W : WX} {tb : Store} {Oc Om : List Addr} {σd : Sd} {st : Store} {σ : L2.St} {H H' : Hp} {α β α' β' : Type}
/-- the first of two steps -/
theorem tX_seq {rel : Hp → α → β → Prop} {rel' : Hp → α' → β' → Prop} {f : Sd → Store → MR α} {k : α → Store → MR α'} {Q : β' → Hp → Prop} {Q1 : β → Hp → Prop} (s : SRs B Oc Om σd (st ++ tb) σ H) (h : (bindM (f σd st) k).all (wX rel' B W tb Oc Om H σd σ Q))
    (hk : ∀ d st' v H1 Om1, SRs B Oc Om1 σd (st' ++ tb) σ H1 → Ext Om H Om1 H1 → rel (fz H1 Oc Om1) d v → (k d st').all (wX rel' B W tb Oc Om1 H1 σd σ Q) → Q1 v H1) : tX rel B W tb f σ H Q1 := by
  refine ⟨Oc, Om, σd, st, s, T.all_imp (fun r hr => ?_) (T.all_bind.mp h)⟩
  obtain ⟨r, st'⟩ := r
  cases r with
  | ok d => exact fun v H1 Om1 s1 x r1 => hk d st' v H1 Om1 s1 x r1 (T.all_imp (fun _ q => wX.ext x q) hr)
  | exc c => exact hr
  | stuck => exact hr
theorem tX_seqO {rel : Hp → α → β → Prop} {f : Sd → Store → MR α} {k : α → Store → MO} {Dn : L2.Ends} {Q1 : β → Hp → Prop} (s : SRs B Oc Om σd (st ++ tb) σ H) (h : (bindO (f σd st) σd k).all (wO B W tb Oc Om H Dn))
    (hk : ∀ d st' v H1 Om1, SRs B Oc Om1 σd (st' ++ tb) σ H1 → Ext Om H Om1 H1 → rel (fz H1 Oc Om1) d v → (k d st').all (wO B W tb Oc Om1 H1 Dn) → Q1 v H1) : tX rel B W tb f σ H Q1 := by
  refine ⟨Oc, Om, σd, st, s, T.all_imp (fun r hr => ?_) (T.all_bind.mp h)⟩
  obtain ⟨r, st'⟩ := r
  cases r with
  | ok d => exact fun v H1 Om1 s1 x r1 => hk d st' v H1 Om1 s1 x r1 (T.all_imp (fun _ q => wO.ext x q) hr)
  | exc c => exact fun C H1 Om1 hc s1 x => hr C σ Om1 H1 hc s1 x
  | stuck => exact hr
theorem ext_fz {Om' : List Addr} (x : Ext Om H Om' H') : Same (fz H Oc Om) (fz H' Oc Om') := x.frz
end
end FF
set_option maxHeartbeats 4000000
/-! what changes nothing, lifted; objects looked at as they stand -/
namespace FF
open PySem PySem.Spec PyProof.Rows L2
/-! ### lifted -/
def mUp (f : DE) : ME := fun σ st => .fin (f σ, st)
def mUpT (f : Sd → R Bool) : MT := fun σ st => .fin (f σ, st)
def mUpA (f : Sd → R (List D)) : MA := fun σ st => .fin (f σ, st)
def mUpS (g : DS) : MS := fun σ st => .fin (g σ, st)
section
variable {X : Cx} {W : WX} {tb : Store} {e : Expr} {es : List Expr} {f : DE}
theorem SRs.up {B : Bd} {Oc Om : List Addr} {σd : Sd} {st : Store} {σ : L2.St} {H : Hp} (s : SRs B Oc Om σd st σ H) : ∃ Oa Ob, SR B (Ob ++ Oc) Oa σd σ H ∧ fz H (Ob ++ Oc) Oa = fz H Oc Om ∧ (∀ H', Same H H' → fz H' (Ob ++ Oc) Oa = fz H' Oc Om) ∧
    ∀ a' σ1 Oa' H', SR B (Ob ++ Oc) Oa' a' σ1 H' → Ext Oa H Oa' H' → SRs B Oc (Oa' ++ Ob) a' st σ1 H' ∧ Ext Om H (Oa' ++ Ob) H' := by
  obtain ⟨Oa, Ob, sa, sb, hm, dj⟩ := SR.apart s s.len
  refine ⟨Oa, Ob, sa, fzA.trans (fzM hm), fun H' _ => fzA.trans (fzM hm), fun a' σ1 Oa' H' s' x => ⟨SR.both s' (sb.stay x (fun y hy => s'.1 y (by simp only [List.mem_append] at hy ⊢; exact .inl hy)) (fun y hy => s'.1 y (by simp [hy])) dj), fun y o hy q => x.keep y o (fun z => hy ((hm y).mpr (.inl z))) q, fun y hy => ?_⟩⟩
  rcases List.mem_append.mp hy with z | z
  · rcases x.new y z with q | q
    · exact .inl ((hm y).mpr (.inl q))
    · exact .inr q
  · exact .inl ((hm y).mpr (.inr z))
theorem em_up (h : ED X W e f) : EM tb X W e (mUp f) := pe_imp h fun σ H Q ⟨Oc, Om, σd, st, s, h⟩ => by
  obtain ⟨Oa, Ob, sa, e1, e2, _⟩ := s.up
  refine ⟨Ob ++ Oc, Oa, σd, sa, ?_⟩
  replace h : wX (Rep (bdOf X)) (bdOf X) W tb Oc Om H σd σ Q (f σd, st) := h
  cases q : f σd with
  | ok d =>
    rw [q] at h
    exact fun v H' e r => h v H' Om (s.same e) (.of_same e) (by rw [← e2 H' e]; exact r)
  | exc c =>
    rw [q] at h
    exact fun C H' hc e => h C H' Om hc (s.same e) (.of_same e)
  | stuck => rw [q] at h; exact h
theorem tm_up {f : Sd → R Bool} (h : TD X W e f) : TM tb X W e (mUpT f) := pt_imp h fun σ H Q ⟨Oc, Om, σd, st, s, h⟩ => by
  obtain ⟨Oa, Ob, sa, e1, e2, _⟩ := s.up
  refine ⟨Ob ++ Oc, Oa, σd, sa, ?_⟩
  replace h : wX relB (bdOf X) W tb Oc Om H σd σ Q (f σd, st) := h
  cases q : f σd with
  | ok d =>
    rw [q] at h
    exact fun H' e => h d H' Om (s.same e) (.of_same e) rfl
  | exc c =>
    rw [q] at h
    exact fun C H' hc e => h C H' Om hc (s.same e) (.of_same e)
  | stuck => rw [q] at h; exact h
theorem am_up {f : Sd → R (List D)} (h : AD X W es f) : AM tb X W es (mUpA f) := pa_imp h fun σ H Q ⟨Oc, Om, σd, st, s, h⟩ => by
  obtain ⟨Oa, Ob, sa, e1, e2, _⟩ := s.up
  refine ⟨Ob ++ Oc, Oa, σd, sa, ?_⟩
  replace h : wX (RepL (bdOf X)) (bdOf X) W tb Oc Om H σd σ Q (f σd, st) := h
  cases q : f σd with
  | ok d =>
    rw [q] at h
    exact fun v H' e r => h v H' Om (s.same e) (.of_same e) (by rw [← e2 H' e]; exact r)
  | exc c =>
    rw [q] at h
    exact fun C H' hc e => h C H' Om hc (s.same e) (.of_same e)
  | stuck => rw [q] at h; exact h
theorem upS_read {g : DS} {Dn : L2.Ends} {σ : L2.St} {H : Hp} (h : tO (bdOf X) W tb (mUpS g) Dn σ H) : tS (bdOf X) W g Dn σ H := by
  obtain ⟨Oc, Om, σd, st, s, h⟩ := h
  obtain ⟨Oa, Ob, sa, e1, e2, k⟩ := s.up
  refine ⟨Ob ++ Oc, Oa, σd, sa, ?_⟩
  replace h : wO (bdOf X) W tb Oc Om H Dn (g σd, st) := h
  have ez : ∀ {Om' : List Addr} {H' : Hp}, fz H' (Ob ++ Oc) Om' = fz H' Oc (Om' ++ Ob) := fzA
  cases q : g σd with
  | next σ1 =>
    rw [q] at h
    exact fun σ' Om' H' s' x => by
      obtain ⟨k1, k2⟩ := k _ _ _ _ s' x
      exact h σ' _ H' k1 k2
  | ret d σ1 =>
    rw [q] at h
    exact fun v σ' Om' H' s' x r => by
      obtain ⟨k1, k2⟩ := k _ _ _ _ s' x
      exact h v σ' _ H' k1 k2 (by rw [← ez]; exact r)
  | brk σ1 =>
    rw [q] at h
    exact fun σ' Om' H' s' x => by
      obtain ⟨k1, k2⟩ := k _ _ _ _ s' x
      exact h σ' _ H' k1 k2
  | cont σ1 =>
    rw [q] at h
    exact fun σ' Om' H' s' x => by
      obtain ⟨k1, k2⟩ := k _ _ _ _ s' x
      exact h σ' _ H' k1 k2
  | exc c σ1 =>
    rw [q] at h
    exact fun C σ' Om' H' hc s' x => by
      obtain ⟨k1, k2⟩ := k _ _ _ _ s' x
      exact h C σ' _ H' hc k1 k2
  | stuck => rw [q] at h; exact h
theorem sm_up {st : Stmt} {g : DS} (h : SD X W st g) : SM tb X W st (mUpS g) := ps_imp h fun _ _ _ => upS_read
theorem sms_up {st : List Stmt} {g : DS} (h : SDs X W st g) : SMs tb X W st (mUpS g) := pss_imp h fun _ _ _ => upS_read
end
/-! ### looked at -/
def frz1 : D → Option D
  | .ol xs => some (.lst xs)
  | .od ks vs => some (.dic ks vs)
  | .odT ks vs => some (.dic (ks.map .inr) vs)
  | d => if d.isOwn then none else some d
def frzL : List D → Option (List D)
  | [] => some []
  | d :: ds => match frz1 d, frzL ds with
    | some e, some es => some (e :: es)
    | _, _ => none
def viewI (p : Addr) (c : Str) (ks : List Str) : Option (List D) → D
  | some es => .inst c ks es
  | none => .ob p
def viewO (p : Addr) : Option D → D
  | some (.oi c ks ds) => viewI p c ks (frzL ds)
  | some (.ol xs) => .lst xs
  | _ => .ob p
def vw (st : Store) : D → D
  | .ob p => viewO p (lk st p)
  | d => d
def viewS (st : Store) (σ : Sd) : Sd := σ.map fun x => x.map (vw st)
mutual
/-- nothing of lists, dicts, instances in it -/
def pureD : D → Bool
  | .non => true
  | .bl _ => true
  | .int _ => true
  | .str _ => true
  | .fn _ => true
  | .ob _ => true
  | .tup ds => pureL ds
  | _ => false
def pureL : List D → Bool
  | [] => true
  | d :: ds => pureD d && pureL ds
end
def clean1 (d : D) : R D := if pureD d = true then .ok d else .stuck
def mView (f : DE) : ME := fun σ st => .fin (f (viewS st σ) >>= clean1, st)
def mViewT (f : Sd → R Bool) : MT := fun σ st => .fin (f (viewS st σ), st)
section
variable {B : Bd} {G G' H H' : Hp}
theorem OR.frz1 {d e : D} {v : V} {fp : List Addr} (h : OR B G H d v fp) (he : FF.frz1 d = some e) (k : ∀ a ∈ fp, ∀ o, H a = some o → G' a = some o) (m : Same G G') : Rep B G' e v := by
  cases d
  case ol xs =>
    cases he
    unfold OR at h
    obtain ⟨p, vs, rfl, h2, rfl, h4⟩ := h
    unfold Rep
    exact ⟨p, vs, rfl, k p (by simp) _ h2, h4.mono m⟩
  case od ks ds =>
    cases he
    unfold OR at h
    obtain ⟨p, vs, rfl, h2, hm, rfl, h4⟩ := h
    unfold Rep
    obtain ⟨kk, k1, k2, k3⟩ := h2
    refine ⟨p, vs, rfl, .inl ⟨kk, k1, k2, ?_⟩, h4.mono m⟩
    rcases k3 with z | ⟨o, z⟩
    · exact .inl (k p (by simp) _ z)
    · exact .inr ⟨o, k p (by simp) _ z⟩
  case odT ks ds =>
    cases he
    unfold OR at h
    obtain ⟨p, vs, rfl, h2, h3, rfl, h5⟩ := h
    unfold Rep
    exact ⟨p, vs, rfl, .inr ⟨ks, rfl, h3, .inl (k p (by simp) _ h2)⟩, h5.mono m⟩
  all_goals first
    | (simp [FF.frz1, D.isOwn] at he; done)
    | (simp only [FF.frz1, D.isOwn, Option.some.injEq, Bool.false_eq_true, if_false] at he
       subst he
       exact (((OR_frz rfl).mp h).2).mono m)
theorem ORL.frzL : ∀ {ds es : List D} {vs : List V} {fp : List Addr}, ORL B G H ds vs fp → FF.frzL ds = some es → (∀ a ∈ fp, ∀ o, H a = some o → G' a = some o) → Same G G' → RepL B G' es vs
  | [], es, vs, fp, h, he, k, m => by
    cases he
    unfold ORL at h
    rw [h.1]
    exact .nil
  | d :: ds, es, vs, fp, h, he, k, m => by
    unfold ORL at h
    obtain ⟨v, r, f1, f2, rfl, rfl, h3, h4⟩ := h
    unfold FF.frzL at he
    cases q1 : FF.frz1 d with
    | none => simp [q1] at he
    | some e =>
      cases q2 : FF.frzL ds with
      | none => simp [q1, q2] at he
      | some es' =>
        simp only [q1, q2, Option.some.injEq] at he
        subst he
        exact .cons (OR.frz1 h3 q1 (fun a ha => k a (by simp [ha])) m) (ORL.frzL h4 q2 (fun a ha => k a (by simp [ha])) m)
end
/-- an owned object is no tuple -/
def noTup (H : Hp) (a : Addr) : Prop := ∀ vs, H a ≠ some (.tup vs)
theorem Rows.noTup {B : Bd} {G H : Hp} : ∀ {xss : List (List D)} {ps : List Addr}, Rows B G H xss ps → ∀ a ∈ ps, FF.noTup H a
  | [], ps, h, a, ha => by
    rw [show ps = [] from h] at ha
    cases ha
  | xs :: xss, ps, h, a, ha => by
    obtain ⟨p, r, vs, rfl, h1, h2, h3⟩ := h
    rcases List.mem_cons.mp ha with z | z
    · subst z
      intro ws q
      rw [h1] at q; cases q
    · exact Rows.noTup h3 a z
mutual
theorem OR.noTup {B : Bd} {G H : Hp} : ∀ {d : D} {v : V} {fp : List Addr}, OR B G H d v fp → ∀ a ∈ fp, FF.noTup H a
  | .ol ds, v, fp, h, a, ha => by
    unfold OR at h
    obtain ⟨p, vs, rfl, h2, rfl, h4⟩ := h
    have : a = p := by simpa using ha
    subst this
    intro ws q
    rw [h2] at q; cases q
  | .ol2 xss, v, fp, h, a, ha => by
    unfold OR at h
    obtain ⟨p, ps, rfl, h2, rfl, h4⟩ := h
    rcases List.mem_cons.mp ha with z | z
    · subst z
      intro ws q
      rw [h2] at q; cases q
    · exact h4.noTup a z
  | .od ks ds, v, fp, h, a, ha => by
    unfold OR at h
    obtain ⟨p, vs, rfl, h2, hm, rfl, h4⟩ := h
    have : a = p := by simpa using ha
    subst this
    intro ws q
    rw [q] at hm; exact hm.elim
  | .odT ks ds, v, fp, h, a, ha => by
    unfold OR at h
    obtain ⟨p, vs, rfl, h2, h3, rfl, h5⟩ := h
    have : a = p := by simpa using ha
    subst this
    intro ws q
    rw [h2] at q; cases q
  | .odN ks ds, v, fp, h, a, ha => by
    unfold OR at h
    obtain ⟨p, xs, rfl, h2, h3, h4, rfl, h6⟩ := h
    have : a = p := by simpa using ha
    subst this
    intro ws q
    rw [h2] at q
    unfold NDictO at q
    cases q
  | .kt ks, v, fp, h, a, ha => by
    unfold OR at h
    rw [h.1] at ha; cases ha
  | .oi c ks ds, v, fp, h, a, ha => by
    unfold OR at h
    obtain ⟨p, dx, C, vs, fq, rfl, h2, h3, h4, h5, rfl, h7⟩ := h
    rcases List.mem_cons.mp ha with z | z
    · subst z
      intro ws q
      rw [h4] at q; cases q
    · rcases List.mem_cons.mp z with z | z
      · subst z
        intro ws q
        rw [h5] at q; cases q
      · exact ORL.noTup h7 a z
  | .tab q, v, fp, h, a, ha => by
    unfold OR at h
    obtain ⟨p, ps, rfl, h2, rfl, h4, h5⟩ := h
    have : a = p := by simpa using ha
    subst this
    intro ws q
    rw [h2] at q; cases q
  | .non, v, fp, h, a, ha => by rw [h.1] at ha; cases ha
  | .bl _, v, fp, h, a, ha => by rw [h.1] at ha; cases ha
  | .int _, v, fp, h, a, ha => by rw [h.1] at ha; cases ha
  | .str _, v, fp, h, a, ha => by rw [h.1] at ha; cases ha
  | .tup _, v, fp, h, a, ha => by rw [h.1] at ha; cases ha
  | .lst _, v, fp, h, a, ha => by rw [h.1] at ha; cases ha
  | .src _, v, fp, h, a, ha => by rw [h.1] at ha; cases ha
  | .dic _ _, v, fp, h, a, ha => by rw [h.1] at ha; cases ha
  | .exc _, v, fp, h, a, ha => by rw [h.1] at ha; cases ha
  | .fn _, v, fp, h, a, ha => by rw [h.1] at ha; cases ha
  | .row _, v, fp, h, a, ha => by rw [h.1] at ha; cases ha
  | .ob _, v, fp, h, a, ha => by rw [h.1] at ha; cases ha
  | .inst _ _ _, v, fp, h, a, ha => by rw [h.1] at ha; cases ha
theorem ORL.noTup {B : Bd} {G H : Hp} : ∀ {ds : List D} {vs : List V} {fp : List Addr}, ORL B G H ds vs fp → ∀ a ∈ fp, FF.noTup H a
  | [], vs, fp, h, a, ha => by
    unfold ORL at h
    rw [h.2] at ha; cases ha
  | d :: ds, vs, fp, h, a, ha => by
    unfold ORL at h
    obtain ⟨v, r, f1, f2, rfl, rfl, h3, h4⟩ := h
    rcases List.mem_append.mp ha with z | z
    · exact OR.noTup h3 a z
    · exact ORL.noTup h4 a z
end
theorem SlotsR.noTup {B : Bd} {G H : Hp} : ∀ {ds : Sd} {σ : L2.St} {fp : List Addr}, SlotsR B G H ds σ fp → ∀ a ∈ fp, FF.noTup H a
  | [], _, _, h, a, ha => by rw [h.2] at ha; cases ha
  | d :: ds, _, _, h, a, ha => by
    obtain ⟨v, r, f1, f2, rfl, rfl, h3, h4⟩ := h
    rcases List.mem_append.mp ha with z | z
    · cases d with
      | none => rw [show f1 = [] from h3] at z; cases z
      | some d =>
        obtain ⟨x, _, h5⟩ := h3
        exact h5.noTup a z
    · exact SlotsR.noTup h4 a z
mutual
theorem Rep.pure {B : Bd} {G G' : Hp} (m : ∀ a vs, G a = some (.tup vs) → G' a = some (.tup vs)) : ∀ {d : D} {v : V}, pureD d = true → Rep B G d v → Rep B G' d v
  | .non, _, _, h => h
  | .bl _, _, _, h => h
  | .int _, _, _, h => h
  | .str _, _, _, h => h
  | .fn _, _, _, h => h
  | .ob _, _, _, h => h
  | .tup ds, _, q, h => by
    unfold Rep at h ⊢
    obtain ⟨a, vs, h1, h2, h3⟩ := h
    exact ⟨a, vs, h1, h2.imp (m a vs) id, RepL.pure m (by simpa [pureD] using q) h3⟩
  | .lst _, _, q, _ => by simp [pureD] at q
  | .src _, _, q, _ => by simp [pureD] at q
  | .dic _ _, _, q, _ => by simp [pureD] at q
  | .exc _, _, q, _ => by simp [pureD] at q
  | .ol _, _, q, _ => by simp [pureD] at q
  | .ol2 _, _, q, _ => by simp [pureD] at q
  | .od _ _, _, q, _ => by simp [pureD] at q
  | .oi _ _ _, _, q, _ => by simp [pureD] at q
  | .odT _ _, _, q, _ => by simp [pureD] at q
  | .odN _ _, _, q, _ => by simp [pureD] at q
  | .kt _, _, q, _ => by simp [pureD] at q
  | .row _, _, q, _ => by simp [pureD] at q
  | .inst _ _ _, _, q, _ => by simp [pureD] at q
  | .tab _, _, q, _ => by simp [pureD] at q
theorem RepL.pure {B : Bd} {G G' : Hp} (m : ∀ a vs, G a = some (.tup vs) → G' a = some (.tup vs)) : ∀ {ds : List D} {vs : List V}, pureL ds = true → RepL B G ds vs → RepL B G' ds vs
  | [], _, _, h => h
  | d :: ds, _, q, h => by
    obtain ⟨v, r, rfl, h1, h2⟩ := h
    simp only [pureL, Bool.and_eq_true] at q
    exact ⟨v, r, rfl, Rep.pure m q.1 h1, RepL.pure m q.2 h2⟩
end
section
variable {B : Bd} {Oc Om : List Addr} {σd : Sd} {st : Store} {σ : L2.St} {H H' : Hp}
theorem SlotsR.mem {B : Bd} {G H : Hp} : ∀ {st : Store} {fp : List Addr} {p : Addr} {d : D}, SlotsR B G H (stD st) (stV st) fp → lk st p = some d → ∃ f, (∀ a ∈ f, a ∈ fp) ∧ OR B G H d (.ref p) f
  | [], _, _, _, _, h => by cases h
  | x :: r, fp, p, d, h, e => by
    obtain ⟨v, w, f1, f2, h1, rfl, h3, h4⟩ := h
    injection h1 with h1 h2
    subst h1 h2
    unfold lk at e
    by_cases q : x.1 = p
    · rw [if_pos q] at e
      cases e
      obtain ⟨y, hy, h5⟩ := h3
      cases hy
      exact ⟨f1, fun a ha => by simp [ha], by rw [← q]; exact h5⟩
    · rw [if_neg q] at e
      obtain ⟨f, g1, g2⟩ := SlotsR.mem h4 e
      exact ⟨f, fun a ha => by simp [g1 a ha], g2⟩
theorem view_rep {G G' : Hp} {fp : List Addr} {tb : Store} (h : SlotsR B G H (stD (st ++ tb)) (stV (st ++ tb)) fp) (k : ∀ a ∈ fp, ∀ o, H a = some o → G' a = some o) (m : Same G G') {d : D} {v : V} (r : Rep B G d v) : Rep B G' (vw st d) v := by
  cases d <;> first | exact r.mono m | skip
  rename_i p
  cases (show v = .ref p from r)
  show Rep B G' (viewO p (lk st p)) (.ref p)
  cases q : lk st p with
  | none => exact (rfl : V.ref p = V.ref p)
  | some d =>
    obtain ⟨f, g1, g2⟩ := h.mem (lk_append (tb := tb) q)
    cases d <;> first | exact (rfl : V.ref p = V.ref p) | skip
    case ol xs => exact g2.frz1 (e := .lst xs) rfl (fun a ha => k a (g1 a ha)) m
    case oi c ks ds =>
      show Rep B G' (viewI p c ks (frzL ds)) (.ref p)
      cases q2 : frzL ds with
      | none => exact (rfl : V.ref p = V.ref p)
      | some es =>
        unfold OR at g2
        obtain ⟨p', dx, C, vs, fq, e1, h2, h3, h4, h5, rfl, h7⟩ := g2
        cases e1
        show Rep B G' (.inst c ks es) (.ref p)
        unfold Rep
        exact ⟨p, dx, C, vs, rfl, h2, h3, k p (g1 p (by simp)) _ h4, h7.frzL q2 (fun a ha => k a (g1 a (by simp [ha]))) m⟩
theorem viewS_slots {G G' : Hp} {fp : List Addr} {tb : Store} (h : SlotsR B G H (stD (st ++ tb)) (stV (st ++ tb)) fp) (k : ∀ a ∈ fp, ∀ o, H a = some o → G' a = some o) (m : Same G G') : ∀ {σd : Sd} {σ : L2.St} {f : List Addr}, SlotsR B G H σd σ f → SlotsR B G' H (viewS st σd) σ f
  | [], _, _, h1 => h1
  | d :: ds, _, _, h1 => by
    obtain ⟨v, r, f1, f2, rfl, rfl, h3, h4⟩ := h1
    refine ⟨v, r, f1, f2, rfl, rfl, ?_, viewS_slots h k m h4⟩
    cases d with
    | none => exact h3
    | some d =>
      obtain ⟨x, rfl, h5⟩ := h3
      refine ⟨x, rfl, ?_⟩
      by_cases q : d.isOwn = true
      · have e : vw st d = d := by cases d <;> first | rfl | cases q
        rw [e]
        exact OR.keep m (fun a _ o z => z) h5
      · have q' : d.isOwn = false := by simpa using q
        obtain ⟨rfl, r5⟩ := (OR_frz q').mp h5
        have rv := view_rep h k m r5
        exact (OR_frz rv.notOwn).mpr ⟨rfl, rv⟩
/-- what is looked at meanwhile stands still -/
theorem SRs.look {tb : Store} (s : SRs B Oc Om σd (st ++ tb) σ H) : ∃ Oa, SR B Oc Oa (viewS st σd) σ H ∧ (∀ d v H', Same H H' → pureD d = true → Rep B (fz H' Oc Oa) d v → Rep B (fz H' Oc Om) d v) ∧
    (∀ ds vs H', Same H H' → pureL ds = true → RepL B (fz H' Oc Oa) ds vs → RepL B (fz H' Oc Om) ds vs) ∧ (∀ H', Same (fz H' Oc Om) (fz H' Oc Oa)) ∧ (∀ a ∈ Oa, a ∈ Om) ∧ (∀ a vs H', Same H H' → fz H' Oc Oa a = some (.tup vs) → fz H' Oc Om a = some (.tup vs)) ∧ ∀ d v, Rep B (fz H Oc Om) d v → Rep B (fz H Oc Oa) (vw st d) v := by
  have hl := s.len
  obtain ⟨h1, fp, h2, h3, h4⟩ := s
  obtain ⟨f1, f2, rfl, k1, k2⟩ := SlotsR.apart hl h2
  obtain ⟨n1, n2, n3⟩ := List.nodup_append.mp h3
  have sub : ∀ H', Same (fz H' Oc Om) (fz H' Oc (Om.filter fun x => decide (x ∉ f2))) := fun H' => sub_minus fun a ha => by
    rcases List.mem_append.mp ha with z | z
    · simp [z]
    · simp [(List.mem_filter.mp z).1]
  have back : ∀ (H' : Hp), Same H H' → ∀ a vs, fz H' Oc (Om.filter fun x => decide (x ∉ f2)) a = some (.tup vs) → fz H' Oc Om a = some (.tup vs) := fun H' e a vs ha => by
    obtain ⟨a1, a2⟩ := minus_some.mp ha
    refine minus_some.mpr ⟨fun z => ?_, a2⟩
    rcases List.mem_append.mp z with z | z
    · exact a1 (by simp [z])
    · by_cases q : a ∈ f2
      · have al := h1 a (by simp [z])
        cases w : H a with
        | none => exact al w
        | some o =>
          have := e a o w
          rw [a2] at this
          cases this
          exact k2.noTup a q vs w
      · exact a1 (by simp [z, q])
  have kk : ∀ a ∈ f2, ∀ o, H a = some o → fz H Oc (Om.filter fun x => decide (x ∉ f2)) a = some o := fun a ha o q => minus_some.mpr ⟨fun z => by
    rcases List.mem_append.mp z with z | z
    · exact (h4 a (by simp [ha])).2 z
    · exact absurd ha (by simpa using (List.mem_filter.mp z).2), q⟩
  refine ⟨Om.filter fun x => decide (x ∉ f2), ⟨fun a ha => h1 a ?_, f1, ?_, n1, fun a ha => ⟨List.mem_filter.mpr ⟨(h4 a (by simp [ha])).1, by simpa using fun z => n3 a ha a z rfl⟩, (h4 a (by simp [ha])).2⟩⟩, fun d v H' e q r => Rep.pure (back H' e) q r, fun d v H' e q r => RepL.pure (back H' e) q r, sub, fun a ha => (List.mem_filter.mp ha).1, fun a vs H' e ha => back H' e a vs ha, fun d v r => view_rep k2 kk (sub H) r⟩
  · rcases List.mem_append.mp ha with z | z
    · simp [z]
    · simp [(List.mem_filter.mp z).1]
  · exact viewS_slots k2 kk (sub H) k1
end
section
variable {X : Cx} {W : WX} {tb : Store} {e : Expr} {f : DE}
theorem em_view (h : ED X W e f) : EM tb X W e (mView f) := pe_imp h fun σ H Q ⟨Oc, Om, σd, st, s, h⟩ => by
  obtain ⟨Oa, sa, k1, _⟩ := s.look
  refine ⟨Oc, Oa, _, sa, ?_⟩
  replace h : wX (Rep (bdOf X)) (bdOf X) W tb Oc Om H σd σ Q (f (viewS st σd) >>= clean1, st) := h
  cases q : f (viewS st σd) with
  | ok d =>
    rw [q] at h
    replace h : wX (Rep (bdOf X)) (bdOf X) W tb Oc Om H σd σ Q (clean1 d, st) := h
    unfold clean1 at h
    by_cases z : pureD d = true
    · rw [if_pos z] at h
      exact fun v H' e r => h v H' Om (s.same e) (.of_same e) (k1 d v H' e z r)
    · rw [if_neg z] at h; exact h.elim
  | exc c =>
    rw [q] at h
    exact fun C H' hc e => h C H' Om hc (s.same e) (.of_same e)
  | stuck => rw [q] at h; exact h
theorem tm_view {f : Sd → R Bool} (h : TD X W e f) : TM tb X W e (mViewT f) := pt_imp h fun σ H Q ⟨Oc, Om, σd, st, s, h⟩ => by
  obtain ⟨Oa, sa, _⟩ := s.look
  refine ⟨Oc, Oa, _, sa, ?_⟩
  replace h : wX relB (bdOf X) W tb Oc Om H σd σ Q (f (viewS st σd), st) := h
  cases q : f (viewS st σd) with
  | ok d =>
    rw [q] at h
    exact fun H' e => h d H' Om (s.same e) (.of_same e) rfl
  | exc c =>
    rw [q] at h
    exact fun C H' hc e => h C H' Om hc (s.same e) (.of_same e)
  | stuck => rw [q] at h; exact h
end
end FF
set_option maxHeartbeats 4000000
/-! expressions and statements that may change objects -/
namespace FF
open PySem PySem.Spec PyProof.Rows L2
section
variable {X : Cx} {W : WX} {tb : Store} {e a b c : Expr} {es rest : List Expr} {f fa fb fc : ME} {fs : MA} {gt ga gb : MT} {pos : Pos}
theorem repX {B : Bd} {Oc Om Om' : List Addr} {H H' : Hp} {d : D} {v : V} (x : Ext Om H Om' H') (r : Rep B (fz H Oc Om) d v) : Rep B (fz H' Oc Om') d v := r.mono x.frz
theorem replX {B : Bd} {Oc Om Om' : List Addr} {H H' : Hp} {d : List D} {v : List V} (x : Ext Om H Om' H') (r : RepL B (fz H Oc Om) d v) : RepL B (fz H' Oc Om') d v := r.mono x.frz
/-! ### arguments, displays -/
def mCons (f : ME) (g : MA) : MA := fun σ st => bindM (f σ st) fun d st1 => bindM (g σ st1) fun ds st2 => .fin (.ok (d :: ds), st2)
def mNil : MA := fun _ st => .fin (.ok [], st)
theorem am_nil : AM tb X W [] mNil := pa_imp pa_nil fun σ H Q ⟨Oc, Om, σd, st, s, h⟩ => h [] H Om s .refl RepL.nil
theorem am_cons (ha : EM tb X W e fa) (hr : AM tb X W es fs) (hs : starEach (e :: es) X.env = (false, eval e X.env) :: starEach es X.env := by rfl) : AM tb X W (e :: es) (mCons fa fs) :=
  pa_imp (pa_cons ha hr hs) fun σ H Q ⟨Oc, Om, σd, st, s, h⟩ => tX_seq s h fun d st1 v H1 Om1 s1 x1 r1 h1 => tX_seq s1 h1 fun ds st2 vs H2 Om2 s2 x2 r2 h2 =>
    h2 (v :: vs) H2 Om2 s2 .refl (.cons (repX x2 r1) r2)
def mOL (g : List D → R D) (fs : MA) : ME := fun σ st => bindM (fs σ st) fun ds st1 => .fin ((g ds).quiet, st1)
theorem em_tup {x1 : Nat} (h : AM tb X W es fs) : EM tb X W (.Tuple es x1 pos) (mOL mkTup fs) :=
  pe_imp (pe_tup h) fun σ H Q ⟨Oc, Om, σd, st, s, h⟩ => tX_seq s h fun ds st1 vs H1 Om1 s1 x1 r1 h1 => by
    unfold mkTup at h1
    split at h1
    · rename_i q
      refine ⟨by rw [r1.length]; exact q, fun p hp => h1 (.ref p) _ Om1 (s1.same (same_upd hp)) (.of_same (same_upd hp)) (rep_tupNew s1.1 hp r1)⟩
    · exact h1.elim
theorem em_lst (h : AM tb X W es fs) : EM tb X W (.List es pos) (mOL mkLst fs) :=
  pe_imp (pe_lst h) fun σ H Q ⟨Oc, Om, σd, st, s, h⟩ => tX_seq s h fun ds st1 vs H1 Om1 s1 x1 r1 h1 => by
    unfold mkLst at h1
    split at h1
    · rename_i q
      refine ⟨by rw [r1.length]; exact q, fun p hp => h1 (.ref p) _ Om1 (s1.same (same_upd hp)) (.of_same (same_upd hp)) (rep_lstNew s1.1 hp r1)⟩
    · exact h1.elim
/-! ### operators of two -/
def mO2 (g : D → D → R D) (fa fb : ME) : ME := fun σ st => bindM (fa σ st) fun x st1 => bindM (fb σ st1) fun y st2 => .fin ((g x y).quiet, st2)
theorem quiet_wX {B : Bd} {Oc Om : List Addr} {σd : Sd} {st : Store} {σ : L2.St} {H : Hp} {Q : VK} {r : R D} (s : SRs B Oc Om σd (st ++ tb) σ H) (h : (T.fin (r.quiet, st)).all (wX (Rep B) B W tb Oc Om H σd σ Q)) :
    r.post (fun d => ∀ w H', Same H H' → Rep B (fz H' Oc Om) d w → Q w H') fun _ => False := by
  cases r with
  | ok d => exact fun w H' e r => h w H' Om (s.same e) (.of_same e) r
  | exc c => exact h
  | stuck => exact h
theorem mO2_read {r : R2} {g : D → D → R D} (sem : Sem2 (bdOf X) r g) {σ : L2.St} {H : Hp} {Q : VK} (h : tM (bdOf X) W tb (mO2 g fa fb) σ H Q) : tOp r (tM (bdOf X) W tb fa) (tM (bdOf X) W tb fb) σ H Q := by
  obtain ⟨Oc, Om, σd, st, s, h⟩ := h
  refine tX_seq s h fun x st1 u H1 Om1 s1 x1 r1 h1 => tX_seq s1 h1 fun y st2 v H2 Om2 s2 x2 r2 h2 => ?_
  exact sem Oc Om2 H2 x y u v Q s2.1 (repX x2 r1) r2 (quiet_wX s2 h2)
theorem SRs.al {B : Bd} {Oc Om : List Addr} {σd : Sd} {st : Store} {σ : L2.St} {H : Hp} (s : SRs B Oc Om σd st σ H) : ∀ a ∈ Oc ++ Om, H a ≠ none := s.1
theorem em_op {op : Operator} {r : R2} {g : D → D → R D} (ho : OpR X (binaryOp op) r) (sem : Sem2 (bdOf X) r g) (ha : EM tb X W a fa) (hb : EM tb X W b fb) : EM tb X W (.BinOp a op b pos) (mO2 g fa fb) :=
  pe_imp (pe_op ho ha hb) fun _ _ _ h => mO2_read sem h
theorem em_cmp {op : CmpOp} {r : R2} {g : D → D → R D} (ho : OpR X (compareOp op) r) (sem : Sem2 (bdOf X) r g) (ha : EM tb X W a fa) (hb : EM tb X W b fb) (hm : behindInMarks op b = false) : EM tb X W (.Compare a [op] [b] pos) (mO2 g fa fb) :=
  pe_imp (pe_cmpR ho ha hb hm) fun _ _ _ h => mO2_read sem h
theorem em_ix (ha : EM tb X W a fa) (hb : EM tb X W b fb) (hs : PlainIx b) : EM tb X W (.Subscript a b pos) (mO2 ixD fa fb) := pe_imp (pe_ix ix_seq ha hb hs) fun _ _ _ h => mO2_read sem_ix h
def mB (f : ME) : MT := fun σ st => bindM (f σ st) fun d st1 => match d with
  | .bl b => .fin (.ok b, st1)
  | _ => .fin (.stuck, st1)
theorem mB_read {t : TE} (i : ∀ σ H Q, tM (bdOf X) W tb f σ H Q → t σ H Q) {σ : L2.St} {H : Hp} {Q : Bool → Hp → Prop} (h : tMT (bdOf X) W tb (mB f) σ H Q) : t σ H fun x H' => ∃ k, x = .bl k ∧ Q k H' := by
  obtain ⟨Oc, Om, σd, st, s, h⟩ := h
  refine i σ H _ (tX_seq s h fun d st1 v H1 Om1 s1 x1 r1 h1 => ?_)
  cases d <;> first | exact h1.elim | skip
  exact ⟨_, r1, h1 _ H1 Om1 s1 .refl rfl⟩
theorem tm_cmp {op : CmpOp} {r : R2} {g : D → D → R D} (ho : OpR X (compareOp op) r) (sem : Sem2 (bdOf X) r g) (ha : EM tb X W a fa) (hb : EM tb X W b fb) (hm : behindInMarks op b = false) : TM tb X W (.Compare a [op] [b] pos) (mB (mO2 g fa fb)) :=
  pt_imp (pt_cmpR ho ha hb hm) fun _ _ _ h => mB_read (fun _ _ _ h => mO2_read sem h) h
theorem tm_val (h : EM tb X W e f) (he : ∀ whole, isTrue e X.env whole = (do let v ← whole; standAt e.pos; holding [v] (truthy v)) := by intro _; rfl) : TM tb X W e (mB f) :=
  pt_imp (pt_val h he) fun _ _ _ q => mB_read (fun _ _ _ z => z) q
/-! ### and, or, not, if -/
abbrev WM (tb : Store) (X : Cx) (W : WX) (e : Expr) (f : MT) : Prop := PW X e (tMT (bdOf X) W tb f)
def mAndT (fa fb : MT) : MT := fun σ st => bindM (fa σ st) fun x st1 => if x = true then fb σ st1 else .fin (.ok false, st1)
def mOrT (fa fb : MT) : MT := fun σ st => bindM (fa σ st) fun x st1 => if x = true then .fin (.ok true, st1) else fb σ st1
def mNotT (fa : MT) : MT := fun σ st => bindM (fa σ st) fun x st1 => .fin (.ok (!x), st1)
def mIf (t : MT) (fa fb : ME) : ME := fun σ st => bindM (t σ st) fun x st1 => if x = true then fa σ st1 else fb σ st1
def mAnd (fa fb : ME) : ME := fun σ st => bindM (fa σ st) fun x st1 => match x with
  | .bl true => fb σ st1
  | .bl false => .fin (.ok (.bl false), st1)
  | _ => .fin (.stuck, st1)
def mOr (fa fb : ME) : ME := fun σ st => bindM (fa σ st) fun x st1 => match x with
  | .bl true => .fin (.ok (.bl true), st1)
  | .bl false => fb σ st1
  | _ => .fin (.stuck, st1)
theorem wm_and1 (ha : TM tb X W a ga) : WM tb X W (.BoolOp .And [a] pos) ga := pw_and1 ha
theorem wm_or1 (ha : TM tb X W a ga) : WM tb X W (.BoolOp .Or [a] pos) ga := pw_or1 ha
theorem wm_and (ha : TM tb X W a ga) (hb : WM tb X W (.BoolOp .And (b :: rest) pos) gb) : WM tb X W (.BoolOp .And (a :: b :: rest) pos) (mAndT ga gb) :=
  pw_imp (pw_and ha hb) fun σ H Q ⟨Oc, Om, σd, st, s, h⟩ => tX_seq s h fun x st1 v H1 Om1 s1 x1 r1 h1 => by
    cases r1
    cases x with
    | true => exact iteT ⟨Oc, Om1, σd, st1, s1, h1⟩
    | false => exact iteF (h1 _ H1 Om1 s1 .refl rfl)
theorem wm_or (ha : TM tb X W a ga) (hb : WM tb X W (.BoolOp .Or (b :: rest) pos) gb) : WM tb X W (.BoolOp .Or (a :: b :: rest) pos) (mOrT ga gb) :=
  pw_imp (pw_or ha hb) fun σ H Q ⟨Oc, Om, σd, st, s, h⟩ => tX_seq s h fun x st1 v H1 Om1 s1 x1 r1 h1 => by
    cases r1
    cases x with
    | true => exact iteT (h1 _ H1 Om1 s1 .refl rfl)
    | false => exact iteF ⟨Oc, Om1, σd, st1, s1, h1⟩
theorem tm_bool (h : WM tb X W e ga) : TM tb X W e ga := PW.pt h
theorem tm_not (ha : TM tb X W a ga) : TM tb X W (.UnaryOp .Not a pos) (mNotT ga) :=
  pt_imp (pt_not ha) fun σ H Q ⟨Oc, Om, σd, st, s, h⟩ => tX_seq s h fun x st1 v H1 Om1 s1 x1 r1 h1 => by
    cases r1
    exact h1 _ H1 Om1 s1 .refl rfl
theorem em_if (hc : TM tb X W c gt) (ha : EM tb X W a fa) (hb : EM tb X W b fb) : EM tb X W (.IfExp c a b pos) (mIf gt fa fb) :=
  pe_imp (pe_ifExp hc ha hb) fun σ H Q ⟨Oc, Om, σd, st, s, h⟩ => tX_seq s h fun x st1 v H1 Om1 s1 x1 r1 h1 => by
    cases r1
    cases x with
    | true => exact iteT ⟨Oc, Om1, σd, st1, s1, h1⟩
    | false => exact iteF ⟨Oc, Om1, σd, st1, s1, h1⟩
theorem em_one {op : BoolOp} (ha : EM tb X W a fa) : EM tb X W (.BoolOp op [a] pos) fa := pe_one ha
theorem em_and (ha : EM tb X W a fa) (hb : EM tb X W (.BoolOp .And (b :: rest) pos) fb) : EM tb X W (.BoolOp .And (a :: b :: rest) pos) (mAnd fa fb) :=
  pe_imp (pe_and ha hb) fun σ H Q ⟨Oc, Om, σd, st, s, h⟩ => tX_seq s h fun x st1 v H1 Om1 s1 x1 r1 h1 => by
    cases x <;> first | exact h1.elim | skip
    rename_i k
    refine ⟨k, r1, ?_⟩
    cases k with
    | true => exact iteT ⟨Oc, Om1, σd, st1, s1, h1⟩
    | false => exact iteF (h1 _ H1 Om1 s1 .refl rfl)
theorem em_or (ha : EM tb X W a fa) (hb : EM tb X W (.BoolOp .Or (b :: rest) pos) fb) : EM tb X W (.BoolOp .Or (a :: b :: rest) pos) (mOr fa fb) :=
  pe_imp (pe_or ha hb) fun σ H Q ⟨Oc, Om, σd, st, s, h⟩ => tX_seq s h fun x st1 v H1 Om1 s1 x1 r1 h1 => by
    cases x <;> first | exact h1.elim | skip
    rename_i k
    refine ⟨k, r1, ?_⟩
    cases k with
    | true => exact iteT (h1 _ H1 Om1 s1 .refl rfl)
    | false => exact iteF ⟨Oc, Om1, σd, st1, s1, h1⟩
/-! ### e[i:j] -/
def mUpO (f : Sd → R (Option Int)) : Sd → Store → MR (Option Int) := fun σ st => .fin (f σ, st)
def mViewO (f : Sd → R (Option Int)) : Sd → Store → MR (Option Int) := fun σ st => .fin (f (viewS st σ), st)
abbrev relO : Hp → Option Int → Option Int → Prop := fun _ a b => b = a
abbrev tMO (B : Bd) (W : WX) (tb : Store) (f : Sd → Store → MR (Option Int)) : TO := tX relO B W tb f
abbrev OM (tb : Store) (X : Cx) (W : WX) (e : Option Expr) (f : Sd → Store → MR (Option Int)) : Prop := PO X e (tMO (bdOf X) W tb f)
theorem om_up {e : Option Expr} {f : Sd → R (Option Int)} (h : OD X W e f) : OM tb X W e (mUpO f) := po_imp h fun σ H Q ⟨Oc, Om, σd, st, s, h⟩ => by
  obtain ⟨Oa, Ob, sa, e1, e2, _⟩ := s.up
  refine ⟨Ob ++ Oc, Oa, σd, sa, ?_⟩
  replace h : wX relO (bdOf X) W tb Oc Om H σd σ Q (f σd, st) := h
  cases q : f σd with
  | ok d =>
    rw [q] at h
    exact fun H' e => h d H' Om (s.same e) (.of_same e) rfl
  | exc c =>
    rw [q] at h
    exact fun C H' hc e => h C H' Om hc (s.same e) (.of_same e)
  | stuck => rw [q] at h; exact h
theorem om_view {e : Option Expr} {f : Sd → R (Option Int)} (h : OD X W e f) : OM tb X W e (mViewO f) := po_imp h fun σ H Q ⟨Oc, Om, σd, st, s, h⟩ => by
  obtain ⟨Oa, sa, _⟩ := s.look
  refine ⟨Oc, Oa, _, sa, ?_⟩
  replace h : wX relO (bdOf X) W tb Oc Om H σd σ Q (f (viewS st σd), st) := h
  cases q : f (viewS st σd) with
  | ok d =>
    rw [q] at h
    exact fun H' e => h d H' Om (s.same e) (.of_same e) rfl
  | exc c =>
    rw [q] at h
    exact fun C H' hc e => h C H' Om hc (s.same e) (.of_same e)
  | stuck => rw [q] at h; exact h
variable {lo hi : Option Expr} {fl fh : Sd → Store → MR (Option Int)} {p2 : Pos}
def mSl (fa : ME) (lo hi : Sd → Store → MR (Option Int)) : ME := fun σ st => bindM (fa σ st) fun x st1 => bindM (lo σ st1) fun l st2 => bindM (hi σ st2) fun u st3 => .fin ((slD x l u).quiet, st3)
theorem em_slice (ha : EM tb X W a fa) (hl : OM tb X W lo fl) (hh : OM tb X W hi fh) : EM tb X W (.Subscript a (.Slice lo hi none p2) pos) (mSl fa fl fh) :=
  pe_imp (pe_slice sl_D ha hl hh) fun σ H Q ⟨Oc, Om, σd, st, s, h⟩ => tX_seq s h fun x st1 u H1 Om1 s1 x1 r1 h1 => tX_seq s1 h1 fun l st2 v2 H2 Om2 s2 x2 r2 h2 => tX_seq s2 h2 fun r st3 v3 H3 Om3 s3 x3 r3 h3 => by
    cases r2
    cases r3
    have rx3 := repX (x2.trans x3) r1
    have h4 := quiet_wX s3 h3
    cases x with
    | lst xs =>
      obtain ⟨a, vs, rfl, h4', h5⟩ := (show ∃ a vs, u = .ref a ∧ _ = some (HO.lst vs) ∧ RepL _ _ xs vs by unfold Rep at rx3; exact rx3)
      exact .inl ⟨a, vs, rfl, SqL.of (fz_sub h4'), fun p hp => h4 _ _ (same_upd hp) (rep_lstNew s3.1 hp (h5.cut _ _))⟩
    | tup xs =>
      obtain ⟨a, vs, rfl, h4', h5⟩ := (rep_sq rx3)
      refine .inr (.inl ⟨a, vs, rfl, Same.seqT minus_sub h4', fun z => ?_, fun _ p hp => h4 _ _ (same_upd hp) (rep_tupNew s3.1 hp (h5.cut _ _))⟩)
      have z' : cutD xs _ _ = xs := cutD_whole (by rw [← h5.length]; exact z)
      refine h4 _ H3 (Same.refl _) ?_
      rw [z']
      exact rx3
    | str z =>
      simp only [slD] at h4
      split at h4
      · cases rx3
        exact .inr (.inr ⟨z, rfl, by assumption, h4 _ H3 (Same.refl _) rfl⟩)
      · exact h4.elim
    | _ => exact h4.elim
end
/-! ### statements -/
section
variable {X : Cx} {W : WX} {tb : Store} {e : Expr} {f : ME} {pos : Pos} {st : Stmt} {rest : List Stmt} {g h : MS}
def mNl : MS := fun σ s => .fin (.next σ, s)
def mSeq (g h : MS) : MS := fun σ s => (g σ s).bind fun r => match r with
  | (.next σ1, s1) => h σ1 s1
  | r => .fin r
theorem sms_nil : SMs tb X W [] mNl := pss_imp pss_nil fun Dn σ H ⟨Oc, Om, σd, st, s, h⟩ => h σ Om H s .refl
theorem sms_cons (h1 : SM tb X W st g) (h2 : SMs tb X W rest h) : SMs tb X W (st :: rest) (mSeq g h) := pss_imp (pss_cons h1 h2) fun Dn σ H ⟨Oc, Om, σd, s0, s, q⟩ => by
  refine ⟨Oc, Om, σd, s0, s, T.all_imp (fun r hr => ?_) (T.all_bind.mp q)⟩
  obtain ⟨o, s1⟩ := r
  cases o with
  | next σ1 => exact fun σ' Om' H' s' x => ⟨Oc, Om', σ1, s1, s', T.all_imp (fun _ z => wO.ext x z) hr⟩
  | ret d σ1 => exact hr
  | brk σ1 => exact hr
  | cont σ1 => exact hr
  | exc c σ1 => exact hr
  | stuck => exact hr
theorem sms_one (h1 : SM tb X W st g) : SMs tb X W [st] g := pss_one h1
def mClr (is : List Nat) (g : MS) : MS := fun σ s => g (clr is σ) s
theorem SRs.clr {B : Bd} {Oc Om : List Addr} {σ : L2.St} {H : Hp} {st : Store} : ∀ {is : List Nat} {σd : Sd}, SRs B Oc Om σd st σ H → SRs B Oc Om (clr is σd) st σ H
  | [], _, s => s
  | i :: is, σd, s => SRs.clr (is := is) (by
    have q : SR B Oc Om ((σd ++ stD st).set i none) (σ ++ stV st) H := SR.forget (i := i) s
    by_cases hi : i < σd.length
    · rw [List.set_append_left _ _ hi] at q
      exact q
    · rw [List.set_eq_of_length_le (by omega)]
      exact s)
theorem sms_clr {is : List Nat} {sts : List Stmt} (h1 : SMs tb X W sts g) : SMs tb X W sts (mClr is g) := pss_imp h1 fun Dn σ H ⟨Oc, Om, σd, st, s, q⟩ => ⟨Oc, Om, _, st, s.clr, q⟩
def mExpr (f : ME) : MS := fun σ s => bindO (f σ s) σ fun _ s1 => .fin (.next σ, s1)
def mRet (f : ME) : MS := fun σ s => bindO (f σ s) σ fun d s1 => .fin (.ret d σ, s1)
def mSet (i : Nat) (f : ME) : MS := fun σ s => bindO (f σ s) σ fun d s1 => .fin (if i < σ.length then .next (σ.set i (some d)) else .stuck, s1)
def mIfS (t : MT) (g h : MS) : MS := fun σ s => bindO (t σ s) σ fun b s1 => if b = true then g σ s1 else h σ s1
theorem sm_expr (he : EM tb X W e f) (hs : swapsWith e none pos.line X.env = pure false := by rfl) : SM tb X W (.Expr e pos) (mExpr f) :=
  ps_imp (ps_expr he hs) fun Dn σ H ⟨Oc, Om, σd, st, s, h⟩ => tX_seqO s h fun d st1 v H1 Om1 s1 x1 r1 h1 => h1 σ Om1 H1 s1 .refl
theorem sm_ret (he : EM tb X W e f) : SM tb X W (.Return (some e) pos) (mRet f) :=
  ps_imp (ps_ret he) fun Dn σ H ⟨Oc, Om, σd, st, s, h⟩ => tX_seqO s h fun d st1 v H1 Om1 s1 x1 r1 h1 => h1 v σ Om1 H1 s1 .refl r1
theorem SRs.setF {B : Bd} {Oc Om : List Addr} {σd : Sd} {st : Store} {σ : L2.St} {H : Hp} {i : Nat} {d : D} {v : V} (s : SRs B Oc Om σd st σ H) (hi : i < σd.length) (r : Rep B (fz H Oc Om) d v) : SRs B Oc Om (σd.set i (some d)) st (σ.set i (some v)) H := by
  have hl := s.len
  have q : SR B Oc Om ((σd ++ stD st).set i (some d)) ((σ ++ stV st).set i (some v)) H := SR.setF' s (by rw [List.length_append]; omega) r
  rw [List.set_append_left _ _ hi, List.set_append_left _ _ (by omega)] at q
  exact q
theorem sm_set {i : Nat} {x : Str} {pos' : Pos} (hN : X.N.Nodup) (hi : X.N[i]? = some x) (hx : Loc X.env.scope x) (he : EM tb X W e f) (hs : swapsWith e (some (.Name x pos')) pos.line X.env = pure false := by rfl)
    (hf : X.fn x = true ∨ X.env.scope.names.lookup x = some .local := by first | exact .inl rfl | exact .inr rfl | assumption) : SM tb X W (.Assign [.Name x pos'] e pos) (mSet i f) :=
  ps_imp (ps_set hN hi hx he hs hf) fun Dn σ H ⟨Oc, Om, σd, st, s, h⟩ => tX_seqO s h fun d st1 v H1 Om1 s1 x1 r1 h1 => by
    by_cases hl : i < σd.length
    · rw [if_pos hl] at h1
      exact h1 _ Om1 H1 (s1.setF hl r1) .refl
    · rw [if_neg hl] at h1; exact h1.elim
theorem sm_if {c : Expr} {t : MT} {a b : List Stmt} (hc : TM tb X W c t) (ha : SMs tb X W a g) (hb : SMs tb X W b h) : SM tb X W (.If c a b pos) (mIfS t g h) :=
  ps_imp (ps_if hc ha hb) fun Dn σ H ⟨Oc, Om, σd, st, s, q⟩ => tX_seqO s q fun k st1 v H1 Om1 s1 x1 r1 h1 => by
    cases r1
    cases k with
    | true => exact iteT ⟨Oc, Om1, σd, st1, s1, h1⟩
    | false => exact iteF ⟨Oc, Om1, σd, st1, s1, h1⟩
/-! targets -/
theorem srs_put {B : Bd} {Oc Om : List Addr} {H : Hp} {st : Store} (t : Tgt) {d : D} {v : V} {σd σd' : Sd} {σ : L2.St} {Q : L2.St → Hp → Prop} (s : SRs B Oc Om σd st σ H) (r : Rep B (fz H Oc Om) d v) (e : t.put d σd = .ok σd')
    (h : ∀ σ' Om', SRs B Oc Om' σd' st σ' H → Ext Om H Om' H → (∀ vs, (∀ i ∈ t.slots, i ∈ vs) → wipe σ' vs = wipe σ vs) → Q σ' H) : t.g B.K v σ H Q := by
  obtain ⟨Oa, Ob, sa, e1, e2, k⟩ := s.up
  exact Tgt.put_ok t sa (by rw [e1]; exact r) e fun σ' s' hw => h σ' _ (k _ _ _ _ s' .refl).1 (k _ _ _ _ s' .refl).2 hw
def mAsg (t : Tgt) (f : ME) : MS := fun σ s => bindO (f σ s) σ fun d s1 => .fin ((t.put d σ).run fun σ' => .next σ', s1)
theorem sm_asg {tg : Expr} (t : Tgt) (he : EM tb X W e f) (hg : PG X tg (t.g X.K)) (hs : swapsWithSole [tg] e pos.line X.env = pure false := by rfl) (hw : swappedStores [tg] e X.env = pure none := by rfl)
    (h1 : (assignEach [tg] X.env).map (·.2) = [assign tg X.env] := by rfl) : SM tb X W (.Assign [tg] e pos) (mAsg t f) :=
  ps_imp (ps_asg he hg hs hw h1) fun Dn σ H ⟨Oc, Om, σd, st, s, h⟩ => tX_seqO s h fun d st1 v H1 Om1 s1 x1 r1 h1 => by
    cases q : t.put d σd with
    | ok σ1 =>
      rw [q] at h1
      exact srs_put (B := bdOf X) t s1 r1 q fun σ' Om' s' x _ => h1 σ' Om' H1 s' x
    | exc c => rw [q] at h1; exact h1.elim
    | stuck => rw [q] at h1; exact h1.elim
/-! ### for, over what stands still -/
def loopM (cl : List Nat) (k : Sd → Store → MO) : Out × Store → MO
  | (.next σ, s) => k σ s
  | (.cont σ, s) => k σ s
  | (.brk σ, s) => .fin (.next (clr cl σ), s)
  | r => .fin r
def R.runM (r : R Sd) (s : Store) (k : Sd → MO) : MO := match r with
  | .ok σ => k σ
  | _ => .fin (.stuck, s)
def forM (cl : List Nat) (t : Tgt) (g : MS) : List D → Sd → Store → MO
  | [], σ, s => .fin (.next (clr cl σ), s)
  | d :: ds, σ, s => (t.put d (clr cl σ)).runM s fun σ1 => (g σ1 s).bind (loopM cl (forM cl t g ds))
abbrev relI (B : Bd) : Hp → List D → It → Prop := fun _ _ _ => True
/-- what is gone through stands still in the heap H (without the addresses O) -/
def wI (B : Bd) (W : WX) (tb : Store) (Oc Om : List Addr) (H : Hp) (σd : Sd) (σ : L2.St) (Q : It → Hp → Prop) : R (List D) × Store → Prop
  | (.ok ds, st) => ∀ J H' Om', SRs B Oc Om' σd (st ++ tb) σ H' → Ext Om H Om' H' → Yld B J Oc Om' H' ds → Q J H'
  | (.exc c, st) => ∀ C H' Om', B.mg c = some (.ref C) → SRs B Oc Om' σd (st ++ tb) σ H' → Ext Om H Om' H' → W (.ref C) none σ H'
  | (.stuck, _) => False
abbrev MI := Sd → Store → MR (List D)
def tMI (B : Bd) (W : WX) (tb : Store) (f : MI) : TI := fun σ H Q => ∃ Oc Om σd st, SRs B Oc Om σd (st ++ tb) σ H ∧ (f σd st).all (wI B W tb Oc Om H σd σ Q)
abbrev IM (tb : Store) (X : Cx) (W : WX) (tg iter : Expr) (f : MI) : Prop := PI X tg iter (tMI (bdOf X) W tb f)
theorem Yld.fz {B : Bd} {J : It} {Oc Om Oc' Om' : List Addr} {H : Hp} {ds : List D} (y : Yld B J Oc Om H ds) (e : fz H Oc Om = fz H Oc' Om') : Yld B J Oc' Om' H ds := by
  obtain ⟨w⟩ := y
  rw [e] at w
  exact ⟨w⟩
theorem im_up {tg iter : Expr} {f : Sd → R (List D)} (h : ID X W tg iter f) : IM tb X W tg iter (mUpA f) := pi_imp h fun σ H Q ⟨Oc, Om, σd, st, s, h⟩ => by
  obtain ⟨Oa, Ob, sa, e1, e2, _⟩ := s.up
  refine ⟨Ob ++ Oc, Oa, σd, sa, ?_⟩
  replace h : wI (bdOf X) W tb Oc Om H σd σ Q (f σd, st) := h
  cases q : f σd with
  | ok d =>
    rw [q] at h
    exact fun J H' e y => h J H' Om (s.same e) (.of_same e) (y.fz (e2 H' e))
  | exc c =>
    rw [q] at h
    exact fun C H' hc e => h C H' Om hc (s.same e) (.of_same e)
  | stuck => rw [q] at h; exact h
def mFor (cl : List Nat) (t : Tgt) (fi : MI) (g : MS) : MS := fun σ s => bindO (fi σ s) σ fun ds s1 => forM cl t g ds σ s1
theorem sm_for {tg iter : Expr} {body : List Stmt} {fi : MI} (cl : List Nat) (t : Tgt) (hp : PassesOwn (model X.prog X.w) X.A X.env X.xe) (hc : X.calm = true) (hi : IM tb X W tg iter fi) (hg : PG X tg (t.g X.K)) (hb : SMs tb X W body g)
    (hs : ∀ x, foldedSetIterable iter X.env x = pure x := by intro _; rfl) : SM tb X W (.For tg iter body [] pos) (mFor cl t fi g) :=
  ps_imp (ps_for hp hc hi hg hb hs) fun Dn σ H ⟨Oc, Om, σd, st, s, h⟩ => by
    refine ⟨Oc, Om, σd, st, s, T.all_imp (fun r hr => ?_) (T.all_bind.mp h)⟩
    obtain ⟨r, st1⟩ := r
    cases r with
    | stuck => exact hr
    | exc c => exact fun C H' Om' hc s' x => hr C σ Om' H' hc s' x
    | ok ds =>
      intro J H1 Om1 s1 x1 y
      replace hr : (forM cl t g ds σd st1).all (wO (bdOf X) W tb Oc Om H Dn) := hr
      have h1 : (forM cl t g ds σd st1).all (wO (bdOf X) W tb Oc Om1 H1 Dn) := T.all_imp (fun _ z => wO.ext x1 z) hr
      obtain ⟨Y, w, wy⟩ := y.w
      refine for_it w (fun i σ' H' => ∃ Om' σd' st', SRs (bdOf X) Oc Om' σd' (st' ++ tb) σ' H' ∧ Ext Om1 H1 Om' H' ∧ (forM cl t g (ds.drop i) σd' st').all (wO (bdOf X) W tb Oc Om' H' Dn)) ⟨Om1, σd, st1, s1, .refl, by simpa using h1⟩ (fun i σ' H' _ ⟨Om', σd', st', _, x, _⟩ => ext_sub x) ?_ ?_
      · intro i x σ' H' H'' hi ⟨Om', σd', st', s', x', p⟩ yy
        obtain ⟨e2, wz⟩ := wy i H' x H'' hi (ext_sub x') yy
        obtain ⟨d, hd, r⟩ := wz Oc Om' s'.1 x'.frz
        have e3 : ds.drop i = d :: ds.drop (i + 1) := by
          obtain ⟨h1, h2⟩ := List.getElem?_eq_some_iff.mp hd
          rw [List.drop_eq_getElem_cons h1, h2]
        rw [e3] at p
        unfold forM at p
        have s2 := (s'.same e2).clr (is := cl)
        have x2 : Ext Om1 H1 Om' H'' := x'.trans (.of_same e2)
        cases q2 : t.put d (clr cl σd') with
        | stuck => rw [q2] at p; exact p.elim
        | exc c => rw [q2] at p; exact p.elim
        | ok σ1 =>
          rw [q2] at p
          replace p : ((g σ1 st').bind (loopM cl (forM cl t g (ds.drop (i + 1))))).all (wO (bdOf X) W tb Oc Om' H' Dn) := p
          refine srs_put (B := bdOf X) t s2 r q2 fun σ2 Om2 s3 x3 _ => ⟨Oc, Om2, σ1, st', s3, T.all_imp (fun r hr => ?_) (T.all_bind.mp p)⟩
          have x4 : Ext Om' H' Om2 H'' := (Ext.of_same e2).trans x3
          obtain ⟨o, st2⟩ := r
          cases o with
          | stuck => exact hr.elim
          | next σ4 => exact fun σ5 Om5 H5 s5 x5 => ⟨Om5, σ4, st2, s5, (x'.trans x4).trans x5, T.all_imp (fun _ z => wO.ext (x4.trans x5) z) hr⟩
          | cont σ4 => exact fun σ5 Om5 H5 s5 x5 => ⟨Om5, σ4, st2, s5, (x'.trans x4).trans x5, T.all_imp (fun _ z => wO.ext (x4.trans x5) z) hr⟩
          | brk σ4 => exact fun σ5 Om5 H5 s5 x5 => hr σ5 Om5 H5 s5.clr (x4.trans x5)
          | ret d' σ4 => exact wO.ext x4 (r := (.ret d' σ4, st2)) hr
          | exc c σ4 => exact wO.ext x4 (r := (.exc c σ4, st2)) hr
      · intro σ' H' ⟨Om', σd', st', s', x', p⟩
        rw [List.drop_length] at p
        exact p σ' Om' H' s'.clr .refl
/-! ### try: .. except C as n: k = n -/
def tryOut (names : List Str) (i j : Nat) : Out × Store → MO
  | (.exc c σ1, s) => .fin (if c ∈ names ∧ i < σ1.length ∧ j < σ1.length then .next (((σ1.set i (some (.exc c))).set j (some (.exc c))).set i none) else .stuck, s)
  | r => .fin r
def mTry (names : List Str) (i j : Nat) (g : MS) : MS := fun σ s => (g σ s).bind (tryOut names i j)
theorem sm_try {x n kn : Str} {C0 : Addr} {i j : Nat} {body : List Stmt} {np kp vp ap hp tp : Pos} {g : MS} (names : List Str) (hs : X.stack = X.env :: X.outer) (hf : X.env.frame = some X.env.locals) (hex : X.ex = []) (hN : X.N.Nodup) (hi : X.N[i]? = some n) (hln : X.env.kindOf n = some .local)
    (hj : X.N[j]? = some kn) (hlk : X.env.kindOf kn = some .local) (hg : Gl X x) (hm : X.mg x = some (.ref C0)) (tk : Takes X W) (hcat : ∀ c ∈ names, ∀ C, X.mg c = some (.ref C) → PySem.W.exmOne X.K (.ref C) (.ref C0) = some true)
    (hb : ∀ (W : WX) (pn : List (Addr × Obj)) (xe : Value → Shared → Prop), Takes (X.tr pn xe) W → PassesOwn (model X.prog X.w) X.A X.env xe → SMs tb (X.tr pn xe) W body g)
    (hsw : swapsWith (.Name n vp) (some (.Name kn kp)) ap.line X.env = pure false := by rfl)
    (hdx : (x == ("__debug__" : Str)) = false := by decide) (hdn : (n == ("__debug__" : Str)) = false := by decide) (hcn : (n == ("__classdict__" : Str)) = false := by decide) :
    SM tb X W (.Try body [.ExceptHandler (some (.Name x np)) (some n) [.Assign [.Name kn kp] (.Name n vp) ap] hp] [] [] tp) (mTry names i j g) :=
  ps_imp (ps_tryKeep (c := .ref C0) (tb := fun W2 => tO (bdOf X) W2 tb g) hs hf hex hN hi hln hj hlk ⟨hg, hdx, .inl hm⟩ tk hdn hcn hsw hb) fun Dn σ H ⟨Oc, Om, σd, st, s, h⟩ => by
    refine ⟨Oc, Om, σd, st, s, T.all_imp (fun r hr => ?_) (T.all_bind.mp h)⟩
    obtain ⟨o, st1⟩ := r
    cases o with
    | exc c σ1 =>
      replace hr : wO (bdOf X) W tb Oc Om H Dn ((if c ∈ names ∧ i < σ1.length ∧ j < σ1.length then Out.next (((σ1.set i (some (.exc c))).set j (some (.exc c))).set i none) else .stuck), st1) := hr
      by_cases z : c ∈ names ∧ i < σ1.length ∧ j < σ1.length
      case neg => rw [if_neg z] at hr; exact hr.elim
      rw [if_pos z] at hr
      intro C σ' Om' H' hc s' x'
      refine ⟨true, hcat c z.1 C hc, fun _ => ⟨rfl, C, rfl, fun p hp => ?_⟩, fun q => nomatch q⟩
      have s2 := s'.same (same_upd hp (o := ExcAt p C))
      have r : Rep (bdOf X) (fz (upd H' p (ExcAt p C)) Oc Om') (.exc c) (.ref p) := by
        unfold Rep
        exact ⟨p, C, rfl, hc, .inl (fz_new s'.1 hp)⟩
      have s3 := (s2.setF z.2.1 r).setF (i := j) (by simpa using z.2.2) r
      refine hr _ Om' _ ?_ (x'.trans (.of_same (same_upd hp)))
      have q : SR (bdOf X) Oc Om' (((((σ1.set i (some (.exc c))).set j (some (.exc c))) ++ stD (st1 ++ tb)).set i none)) (((((σ'.set i (some (.ref p))).set j (some (.ref p))) ++ stV (st1 ++ tb)).set i none)) _ := SR.drop s3
      have hl := s'.len
      rw [List.set_append_left _ _ (by simpa using z.2.1), List.set_append_left _ _ (by simpa using (hl ▸ z.2.1 : i < σ'.length))] at q
      exact q
    | next σ1 => exact hr
    | ret d σ1 => exact hr
    | brk σ1 => exact hr
    | cont σ1 => exact hr
    | stuck => exact hr
end
end FF
set_option maxHeartbeats 4000000
/-! fields, methods, makings -/
namespace FF
open PySem PySem.Spec PyProof.Rows L2
/-! ### the fields of an object -/
def fget (f : Str) : List Str → List D → Option D
  | k :: ks, d :: ds => if k = f then some d else fget f ks ds
  | _, _ => none
def putK (f : Str) : List Str → List Str
  | [] => [f]
  | k :: ks => if k = f then k :: ks else k :: putK f ks
def putV {α : Type} (f : Str) (d : α) : List Str → List α → List α
  | k :: ks, x :: xs => if k = f then d :: xs else x :: putV f d ks xs
  | _, _ => [d]
theorem zip_putF (f : Str) (y : V) : ∀ {ks : List Str} {vs : List V}, ks.length = vs.length → putF f y (ks.zip vs) = (putK f ks).zip (putV f y ks vs)
  | [], [], _ => rfl
  | k :: ks, v :: vs, h => by
    have ih := zip_putF f y (ks := ks) (vs := vs) (by simpa using h)
    rw [List.zip_cons_cons]
    unfold putF putK putV
    by_cases q : k = f
    · simp [q]
    · simp [q, ih]
  | [], _ :: _, h => by simp at h
  | _ :: _, [], h => by simp at h
theorem len_putK (f : Str) : ∀ {ks : List Str} {vs : List V} {y : V}, ks.length = vs.length → (putK f ks).length = (putV f y ks vs).length
  | [], [], _, _ => rfl
  | k :: ks, v :: vs, y, h => by
    have ih := len_putK f (ks := ks) (vs := vs) (y := y) (by simpa using h)
    unfold putK putV
    by_cases q : k = f
    · simp [q] at h ⊢; exact h
    · simp [q, ih]
  | [], _ :: _, _, h => by simp at h
  | _ :: _, [], _, h => by simp at h
section
variable {B : Bd} {G G' H H' : Hp} {f : Str}
theorem ORL.len : ∀ {ds : List D} {vs : List V} {fp : List Addr}, ORL B G H ds vs fp → ds.length = vs.length
  | [], vs, fp, h => by
    unfold ORL at h
    rw [h.1]; rfl
  | d :: ds, vs, fp, h => by
    unfold ORL at h
    obtain ⟨v, r, f1, f2, rfl, rfl, h3, h4⟩ := h
    simp [ORL.len h4]
/-- one field apart -/
theorem ORL.at : ∀ {ks : List Str} {ds : List D} {vs : List V} {fp : List Addr} {d : D}, ORL B G H ds vs fp → fget f ks ds = some d → ∃ v g, (ks.zip vs).lookup f = some v ∧ OR B G H d v g ∧ ∀ a ∈ g, a ∈ fp
  | [], _, _, _, _, h, e => by cases e
  | k :: ks, [], _, _, _, h, e => by cases e
  | k :: ks, d0 :: ds, vs, fp, d, h, e => by
    unfold ORL at h
    obtain ⟨v, r, f1, f2, rfl, rfl, h3, h4⟩ := h
    unfold fget at e
    by_cases q : k = f
    · rw [if_pos q] at e
      cases e
      exact ⟨v, f1, by simp [List.lookup, q], h3, fun a ha => by simp [ha]⟩
    · rw [if_neg q] at e
      obtain ⟨w, g, e1, e2, e3⟩ := ORL.at h4 e
      refine ⟨w, g, ?_, e2, fun a ha => by simp [e3 a ha]⟩
      have hb : (f == k) = false := beq_eq_false_iff_ne.mpr fun z => q z.symm
      simp only [List.zip_cons_cons, List.lookup, hb]
      exact e1
/-- a field gets something new -/
theorem ORL.put : ∀ {ks : List Str} {ds : List D} {vs : List V} {fp fd : List Addr} {d : D} {y : V}, ks.length = vs.length → ORL B G H ds vs fp → Same G G' → fp.Nodup → fd.Nodup → OR B G' H' d y fd →
    (∀ a ∈ fp, ∀ o, H a = some o → H' a = some o) → (∀ a ∈ fd, a ∉ fp) → ∃ fp', ORL B G' H' (putV f d ks ds) (putV f y ks vs) fp' ∧ fp'.Nodup ∧ ∀ a ∈ fp', a ∈ fp ∨ a ∈ fd
  | [], [], [], fp, fd, d, y, _, h, m, nd, nf, r, _, _ => by
    refine ⟨fd ++ [], ?_, by simpa using nf, fun a ha => .inr (by simpa using ha)⟩
    show ORL B G' H' [d] [y] (fd ++ [])
    unfold ORL
    exact ⟨y, [], fd, [], rfl, rfl, r, by unfold ORL; exact ⟨rfl, rfl⟩⟩
  | [], _ :: _, [], _, _, _, _, hl, h, _, _, _, _, _, _ => by have := h.len; simp at this
  | [], _, _ :: _, _, _, _, _, hl, _, _, _, _, _, _, _ => by simp at hl
  | _ :: _, _, [], _, _, _, _, hl, _, _, _, _, _, _, _ => by simp at hl
  | k :: ks, [], v :: vs, _, _, _, _, hl, h, _, _, _, _, _, _ => by have := h.len; simp at this
  | k :: ks, d0 :: ds, v0 :: vs, fp, fd, d, y, hl, h, m, nd, nf, r, keep, hd => by
    unfold ORL at h
    obtain ⟨v, w, f1, f2, e1, rfl, h3, h4⟩ := h
    cases e1
    obtain ⟨n1, n2, n3⟩ := List.nodup_append.mp nd
    unfold putV
    by_cases q : k = f
    · rw [if_pos q, if_pos q]
      refine ⟨fd ++ f2, ?_, List.nodup_append.mpr ⟨nf, n2, fun a ha b hb e => hd a ha (by simp [e ▸ hb])⟩, fun a ha => ?_⟩
      · unfold ORL
        exact ⟨y, vs, fd, f2, rfl, rfl, r, ORL.keep m (fun a ha o z => keep a (by simp [ha]) o z) h4⟩
      · rcases List.mem_append.mp ha with z | z
        · exact .inr z
        · exact .inl (by simp [z])
    · rw [if_neg q, if_neg q]
      obtain ⟨fp', p1, p2, p3⟩ := ORL.put (ks := ks) (fd := fd) (d := d) (y := y) (by simpa using hl) h4 m n2 nf r (fun a ha o z => keep a (by simp [ha]) o z) (fun a ha z => hd a ha (by simp [z]))
      refine ⟨f1 ++ fp', ?_, List.nodup_append.mpr ⟨n1, p2, fun a ha b hb e => ?_⟩, fun a ha => ?_⟩
      · unfold ORL
        exact ⟨v0, _, f1, fp', rfl, rfl, OR.keep m (fun a ha o z => keep a (by simp [ha]) o z) h3, p1⟩
      · subst e
        rcases p3 a hb with z | z
        · exact n3 a ha a z rfl
        · exact hd a z (by simp [ha])
      · rcases List.mem_append.mp ha with z | z
        · exact .inl (by simp [z])
        · rcases p3 a z with z | z
          · exact .inl (by simp [z])
          · exact .inr z
/-- what a field owns changes where it stands -/
theorem ORL.mod : ∀ {ks : List Str} {ds : List D} {vs : List V} {fp : List Addr} {d : D}, ORL B G H ds vs fp → fp.Nodup → fget f ks ds = some d → ∃ v g, (ks.zip vs).lookup f = some v ∧ OR B G H d v g ∧ (∀ a ∈ g, a ∈ fp) ∧
    ∀ G' H' d', Same G G' → OR B G' H' d' v g → (∀ a ∈ fp, a ∉ g → ∀ o, H a = some o → H' a = some o) → ORL B G' H' (putV f d' ks ds) vs fp
  | [], _, _, _, _, h, _, e => by cases e
  | k :: ks, [], _, _, _, h, _, e => by cases e
  | k :: ks, d0 :: ds, vs, fp, d, h, nd, e => by
    unfold ORL at h
    obtain ⟨v, r, f1, f2, rfl, rfl, h3, h4⟩ := h
    obtain ⟨n1, n2, n3⟩ := List.nodup_append.mp nd
    unfold fget at e
    by_cases q : k = f
    · rw [if_pos q] at e
      cases e
      refine ⟨v, f1, by simp [List.lookup, q], h3, fun a ha => by simp [ha], fun G' H' d' m r' keep => ?_⟩
      unfold putV
      rw [if_pos q]
      unfold ORL
      exact ⟨v, r, f1, f2, rfl, rfl, r', ORL.keep m (fun a ha o z => keep a (by simp [ha]) (fun w => n3 a w a ha rfl) o z) h4⟩
    · rw [if_neg q] at e
      obtain ⟨w, g, e1, e2, e3, e4⟩ := ORL.mod h4 n2 e
      refine ⟨w, g, ?_, e2, fun a ha => by simp [e3 a ha], fun G' H' d' m r' keep => ?_⟩
      · have hb : (f == k) = false := beq_eq_false_iff_ne.mpr fun z => q z.symm
        simp only [List.zip_cons_cons, List.lookup, hb]
        exact e1
      · unfold putV
        rw [if_neg q]
        unfold ORL
        exact ⟨v, r, f1, f2, rfl, rfl, OR.keep m (fun a ha o z => keep a (by simp [ha]) (fun w => n3 a ha a (e3 a w) rfl) o z) h3, e4 G' H' d' m r' fun a ha hn o z => keep a (by simp [ha]) hn o z⟩
end
/-! ### reading -/
/-- what a class of ours is told by -/
structure ClsF (K : PySem.W.Frag) (mg : Str → Option Value) (c : Str) (fs : List Str) : Prop where
  at_ : ∃ C, mg c = some (.ref C) ∧ Cls K C ∧ ∀ f ∈ fs, NoAttr K C f
/-- an object of the class c in the store -/
def obAt (c : Str) (st : Store) (d : D) : Option (Addr × List Str × List D) := match d with
  | .ob p => (match lk st p with
    | some (.oi c' ks ds) => if c' = c then some (p, ks, ds) else none
    | _ => none)
  | _ => none
theorem obAt_some {c : Str} {st : Store} {d : D} {p : Addr} {ks : List Str} {ds : List D} (h : obAt c st d = some (p, ks, ds)) : d = .ob p ∧ lk st p = some (.oi c ks ds) := by
  unfold obAt at h
  split at h
  · rename_i q
    split at h
    · rename_i c' ks' ds' e
      by_cases z : c' = c
      · rw [if_pos z] at h
        cases h
        subst z
        exact ⟨rfl, e⟩
      · rw [if_neg z] at h; cases h
    · cases h
  · cases h
def flatO : Option D → R D
  | some d => if d.isOwn = true then .stuck else .ok d
  | none => .stuck
def fldR (c f : Str) (st : Store) (d : D) : R D := match obAt c st d with
  | some (_, ks, ds) => flatO (fget f ks ds)
  | none => .stuck
/-- o.f, what stands still -/
def mFld (c f : Str) (fo : ME) : ME := fun σ st => bindM (fo σ st) fun d st1 => .fin (fldR c f st1 d, st1)
section
variable {X : Cx} {W : WX} {tb : Store} {o e : Expr} {fo fe : ME} {pos : Pos}
/-- an object in the heap -/
theorem SRs.obj {B : Bd} {Oc Om : List Addr} {σd : Sd} {st : Store} {σ : L2.St} {H : Hp} {p : Addr} {c : Str} {ks : List Str} {ds : List D} (s : SRs B Oc Om σd (st ++ tb) σ H) (h : lk st p = some (.oi c ks ds)) :
    ∃ dx C vs fq, B.mg c = some (.ref C) ∧ ks.length = vs.length ∧ H p = some (.ins C dx (ks.zip vs)) ∧ ORL B (fz H Oc Om) H ds vs fq := by
  obtain ⟨fp, h1, _⟩ := s.entry (lk_append (tb := tb) h)
  unfold OR at h1
  obtain ⟨p', dx, C, vs, fq, e1, h2, h3, h4, h5, _, h7⟩ := h1
  cases e1
  exact ⟨dx, C, vs, fq, h2, h3, h4, h7⟩
theorem flatO_ok {o : Option D} {d : D} (h : flatO o = .ok d) : o = some d ∧ d.isOwn = false := by
  cases o with
  | none => cases h
  | some e =>
    replace h : (if e.isOwn = true then R.stuck else .ok e) = R.ok d := h
    by_cases q : e.isOwn = true
    · rw [if_pos q] at h; cases h
    · rw [if_neg q] at h
      cases h
      exact ⟨rfl, by simpa using q⟩
theorem flatO_exc {o : Option D} {c : Str} : flatO o ≠ .exc c := by
  cases o with
  | none => exact fun z => nomatch z
  | some e =>
    show (if e.isOwn = true then R.stuck else .ok e) ≠ R.exc c
    by_cases q : e.isOwn = true
    · rw [if_pos q]; exact fun z => nomatch z
    · rw [if_neg q]; exact fun z => nomatch z
theorem em_fld {c f : Str} {fs : List Str} (F : ClsF X.K X.mg c fs) (hf : f ∈ fs := by decide) (he : EM tb X W o fo) (hb : attributeBase o f X.env (eval o X.env) = eval o X.env := by rfl) : EM tb X W (.Attribute o f pos) (mFld c f fo) :=
  pe_imp (pe_fld he hb) fun σ H Q ⟨Oc, Om, σd, st, s, h⟩ => tX_seq s h fun d st1 v H1 Om1 s1 x1 r1 h1 => by
    replace h1 : wX (Rep (bdOf X)) (bdOf X) W tb Oc Om1 H1 σd σ Q (fldR c f st1 d, st1) := h1
    unfold fldR at h1
    cases q : obAt c st1 d with
    | none => rw [q] at h1; exact h1.elim
    | some z =>
      obtain ⟨p, ks, ds⟩ := z
      rw [q] at h1
      obtain ⟨rfl, q2⟩ := obAt_some q
      replace h1 : wX (Rep (bdOf X)) (bdOf X) W tb Oc Om1 H1 σd σ Q (flatO (fget f ks ds), st1) := h1
      cases q3 : flatO (fget f ks ds) with
      | stuck => rw [q3] at h1; exact h1.elim
      | exc c => exact absurd q3 flatO_exc
      | ok d =>
        rw [q3] at h1
        obtain ⟨g1, g2⟩ := flatO_ok q3
        obtain ⟨dx, C, vs, fq, k1, k2, k3, k4⟩ := s1.obj q2
        obtain ⟨v', g, e1, e2, _⟩ := k4.at g1
        obtain ⟨C', m1, m2, m3⟩ := F.at_
        rw [show X.mg c = _ from k1] at m1
        cases m1
        cases (show v = .ref p from r1)
        exact ⟨p, C, dx, _, v', rfl, k3, m2, m3 f hf, e1, h1 v' H1 Om1 s1 .refl ((OR_frz g2).mp e2).2⟩
/-! of what stands still -/
def instAt (c : Str) : D → Option (List Str × List D)
  | .inst c' ks ds => if c' = c then some (ks, ds) else none
  | _ => none
theorem instAt_some {c : Str} {d : D} {ks : List Str} {ds : List D} (h : instAt c d = some (ks, ds)) : d = .inst c ks ds := by
  unfold instAt at h
  split at h
  · rename_i c' ks' ds'
    by_cases q : c' = c
    · rw [if_pos q] at h
      cases h
      rw [q]
    · rw [if_neg q] at h; cases h
  · cases h
def fldD (c f : Str) (d : D) : R D := match instAt c d with
  | some (ks, ds) => ofO (fget f ks ds)
  | none => .stuck
def eFld (c f : Str) (fo : DE) : DE := fun σ => fo σ >>= fldD c f
theorem RepL.fat {B : Bd} {G : Hp} {f : Str} : ∀ {ks : List Str} {ds : List D} {vs : List V} {d : D}, RepL B G ds vs → fget f ks ds = some d → ∃ v, (ks.zip vs).lookup f = some v ∧ Rep B G d v
  | [], _, _, _, h, e => by cases e
  | k :: ks, [], _, _, h, e => by cases e
  | k :: ks, d0 :: ds, _, d, h, e => by
    obtain ⟨v, r, rfl, h3, h4⟩ := h
    unfold fget at e
    by_cases q : k = f
    · rw [if_pos q] at e
      cases e
      exact ⟨v, by simp [List.lookup, q], h3⟩
    · rw [if_neg q] at e
      obtain ⟨w, e1, e2⟩ := RepL.fat h4 e
      refine ⟨w, ?_, e2⟩
      have hb : (f == k) = false := beq_eq_false_iff_ne.mpr fun z => q z.symm
      simp only [List.zip_cons_cons, List.lookup, hb]
      exact e1
theorem ed_fld {c f : Str} {fs : List Str} {fo : DE} (F : ClsF X.K X.mg c fs) (hf : f ∈ fs := by decide) (he : ED X W o fo) (hb : attributeBase o f X.env (eval o X.env) = eval o X.env := by rfl) : ED X W (.Attribute o f pos) (eFld c f fo) :=
  pe_imp (pe_fld he hb) fun σ H Q ⟨Oc, Om, σd, s, h⟩ => tD_seq s h fun d v H1 e1 r s1 h1 => by
    unfold fldD at h1
    cases q : instAt c d with
    | none => rw [q] at h1; exact h1.elim
    | some z =>
      obtain ⟨ks, ds⟩ := z
      rw [q] at h1
      have q2 := instAt_some q
      subst q2
      obtain ⟨d, g1, p⟩ := ofO_post h1
      obtain ⟨a, dx, C, vs, rfl, k1, k2, k3, k4⟩ := (show ∃ a dx C vs, v = .ref a ∧ X.mg c = some (.ref C) ∧ ks.length = vs.length ∧ _ = some (HO.ins C dx (ks.zip vs)) ∧ RepL _ _ ds vs by unfold Rep at r; exact r)
      obtain ⟨w, e3, r3⟩ := k4.fat g1
      obtain ⟨C', m1, m2, m3⟩ := F.at_
      rw [k1] at m1
      cases m1
      exact ⟨a, C, dx, _, w, rfl, fz_sub k3, m2, m3 f hf, e3, p w H1 e1 r3⟩
end
end FF
set_option maxHeartbeats 4000000
/-! methods, makings; what a field gets -/
namespace FF
open PySem PySem.Spec PyProof.Rows L2
/-! ### a method called, an own class made: exceptions told by the slots -/
section
variable {X : Cx} {CX : CXT} {k : Nat} {f C : Addr} {fd : FuncData} {ps : List Str} {sp : Sp} {E : L2.St → XK} {x m : Str} {p pos apos : Pos} {e o : Expr} {es : List Expr} {ta : TE} {t : TA}
def tMethZ (C : Addr) (m : Str) (sp : Sp) (E : L2.St → XK) (ta : TE) (t : TA) : TE := fun σ H Q => ta σ H fun x H1 => ∃ a dx fs, x = .ref a ∧ H1 a = some (.ins C dx fs) ∧ fs.lookup m = none ∧ t σ H1 fun vs H2 => sp (x :: vs) H2 Q (E σ)
theorem pe_methZ {pl : Sem Bool} (he : PE X o ta) (c : Cls X.K C) (hm : Meth X.K C m f) (F : FnOk X.prog X.w X.K X.mg X.base CX k f fd ps sp) (hr : Room k X.A) (hb : Binds X.K fd ps []) (hx : ∀ σ, PassesAt CX X σ (E σ)) (ha : PA X (e :: es) t)
    (hst : starEach (e :: es) X.env = (false, eval e X.env) :: starEach es X.env := by rfl) (hpl : (backTo pos (starEach es X.env)).any (·.1) = false := by rfl)
    (ht : eval (.Call (.Attribute o m apos) (e :: es) [] pos) X.env = (do
      let ov ← eval o X.env
      standAt apos.atName
      let (f, first) ← holding [ov] (getMethod ov m pl)
      callWith pos f first (backTo pos (starEach (e :: es) X.env)) (backToKw pos (keywordEach [] X.env))) := by rfl) :
    PE X (.Call (.Attribute o m apos) (e :: es) [] pos) (tMethZ C m sp E ta t) := by
  refine ⟨fun pins s σ H Q I h => ?_⟩
  refine PySem.W.methodCall_KW (pl := pl) (thn (he.run pins s σ H _ I h) fun u s1 ⟨x, H1, I1, rx, a, dx, fs, ex, ea, l, q⟩ => ?_) ht
  subst ex
  obtain rfl : u = Value.ref a := rx
  refine getmeth_ok I1 ea c hm l ?_
  refine PySem.W.callWith_K (first := [.ref a]) (h₀ := X.base) I.ok.mod.kin hm.kp (thn (ha.run pos pins s1 σ H1 _ I1 q) fun us s2 ⟨vs, H2, I2, r, q2⟩ => ⟨I2.kIn, ?_⟩) hst hpl
  exact run_fnS (us := .ref a :: us) (vs := .ref a :: vs) F hr hb (hx σ) I2 (.cons rfl r) q2
theorem pe_methZ0 {pl : Sem Bool} (he : PE X o ta) (c : Cls X.K C) (hm : Meth X.K C m f) (F : FnOk X.prog X.w X.K X.mg X.base CX k f fd ps sp) (hr : Room k X.A) (hb : Binds X.K fd ps []) (hx : ∀ σ, PassesAt CX X σ (E σ))
    (ht : eval (.Call (.Attribute o m apos) [] [] pos) X.env = (do
      let ov ← eval o X.env
      standAt apos.atName
      let (f, first) ← holding [ov] (getMethod ov m pl)
      callWith pos f first (backTo pos (starEach [] X.env)) (backToKw pos (keywordEach [] X.env))) := by rfl) :
    PE X (.Call (.Attribute o m apos) [] [] pos) (tMethZ C m sp E ta tNil) := by
  refine ⟨fun pins s σ H Q I h => ?_⟩
  refine PySem.W.methodCall_KW (pl := pl) (thn (he.run pins s σ H _ I h) fun u s1 ⟨x, H1, I1, rx, a, dx, fs, ex, ea, l, q⟩ => ?_) ht
  subst ex
  obtain rfl : u = Value.ref a := rx
  refine getmeth_ok I1 ea c hm l ?_
  exact PySem.W.callWith_K0 (first := [.ref a]) I1.kIn hm.kp (run_fnS (us := [.ref a]) (vs := [.ref a]) F hr hb (hx σ) I1 (.cons rfl .nil) q)
theorem pe_callZ0 (F : FnOk X.prog X.w X.K X.mg X.base CX k f fd ps sp) (hr : Room k X.A) (hg : Gl X x) (hm : X.mg x = some (.ref f)) (hk : PySem.W.keepIn X.K (.ref f) = true) (hb : Binds X.K fd ps []) (hx : ∀ σ, PassesAt CX X σ (E σ))
    (hdb : (x == ("__debug__" : Str)) = false := by decide) : PE X (.Call (.Name x p) [] [] pos) (tCallS sp E tNil) := by
  refine ⟨fun pins s σ H Q I h => ?_⟩
  refine wpAny_Call_Name_kw (ld_glob I hg hm ?_ hdb)
  exact PySem.W.callWith_K0 I.kIn hk (run_fnS (us := []) (vs := []) F hr hb (hx σ) I .nil h)
def tMakeZ (C : Addr) (sp : Sp) (E : L2.St → XK) (t : TA) : TE := fun σ H Q => t σ H fun vs H1 => ∀ x dx, H1 x = none → H1 dx = none → dx ≠ x →
  sp (.ref x :: vs) (upd (upd H1 dx (.own x)) x (.ins C dx [])) (fun v H2 => v = .non ∧ Q (.ref x) H2) (E σ)
theorem run_makeZ {pins : List (Addr × Obj)} {σ : L2.St} {H : Hp} {s : Shared} {Q : VK} {us : List Value} {vs : List V} (M : Mk X.K C f) (F : FnOk X.prog X.w X.K X.mg X.base CX k f fd ps sp) (hr : Room (k + 1) X.A) (hb : Binds X.K fd ps [])
    (hx : ∀ σ, PassesAt CX X σ (E σ)) (I : Inv X pins σ H s) (r : Vals vs us)
    (h : ∀ x dx, H x = none → H dx = none → dx ≠ x → sp (.ref x :: vs) (upd (upd H dx (.own x)) x (.ins C dx [])) (fun v H2 => v = .non ∧ Q (.ref x) H2) (E σ)) :
    wpAny (model X.prog X.w) X.A (call (.ref C) us) (EP X pins σ Q) X.xe s := by
  have hq := h (s.heap.objs.size + 1) s.heap.objs.size (I.hok.fresh (Nat.le_succ _)) (I.hok.fresh (Nat.le_refl _)) (Nat.ne_of_lt (Nat.lt_succ_self _))
  have I2 := Inv.made (C := C) I
  have r2 : Vals (V.ref (s.heap.objs.size + 1) :: vs) (Value.ref (s.heap.objs.size + 1) :: us) := .cons rfl r
  have hl : (Value.ref (s.heap.objs.size + 1) :: us).length = ps.length := by
    have e := r2.length
    rw [F.len _ _ _ _ hq] at e
    exact e.symm
  have b := hb { s with heap := (s.heap.push PySem.W.emptyDict).push (PySem.W.instObj C s.heap.objs.size) } (Value.ref (s.heap.objs.size + 1) :: us) I2.kIn (by rw [List.append_nil]; exact hl)
  rw [List.append_nil] at b
  refine wpAny_call (make_map (f := f) I.kIn M.makes M.init (beq_iff_eq.mp M.fn) (codeAny_mono (F.run _ X.stack _ _ ⟨Value.ref (s.heap.objs.size + 1) :: us, []⟩ (Value.ref (s.heap.objs.size + 1) :: us) _ _ (E σ) (hr.make C us [])
    (I2.env0.make C us []) b r2 hq) fun r s' hq' => ?_))
  cases r with
  | error e => exact hx σ pins _ _ e s' I2 hq'
  | ok fl =>
    cases fl with
    | ret u =>
      obtain ⟨v, H', I3, rv, ev, q3⟩ := I2.after hq'
      subst ev
      exact ⟨rv, ⟨V.ref (s.heap.objs.size + 1), H', I3, rfl, q3⟩⟩
    | next => exact False.elim hq'
    | brk => exact False.elim hq'
    | cont => exact False.elim hq'
theorem pe_makeZ (M : Mk X.K C f) (F : FnOk X.prog X.w X.K X.mg X.base CX k f fd ps sp) (hr : Room (k + 1) X.A) (hg : Gl X x) (hm : X.mg x = some (.ref C)) (hb : Binds X.K fd ps []) (hx : ∀ σ, PassesAt CX X σ (E σ))
    (ha : PA X (e :: es) t) (hdb : (x == ("__debug__" : Str)) = false := by decide) (he : starEach (e :: es) X.env = (false, eval e X.env) :: starEach es X.env := by rfl) (hpl : (backTo pos (starEach es X.env)).any (·.1) = false := by rfl) :
    PE X (.Call (.Name x p) (e :: es) [] pos) (tMakeZ C sp E t) := by
  refine ⟨fun pins s σ H Q I h => ?_⟩
  refine wpAny_Call_Name_kw (ld_glob I hg hm ?_ hdb)
  refine PySem.W.callWith_K (h₀ := X.base) I.ok.mod.kin M.kp (thn (ha.run pos pins s σ H _ I h) fun us s1 ⟨vs, H1, I1, r, q⟩ => ⟨I1.kIn, ?_⟩) he hpl
  exact run_makeZ M F hr hb hx I1 r q
theorem pe_makeZ0 (M : Mk X.K C f) (F : FnOk X.prog X.w X.K X.mg X.base CX k f fd ps sp) (hr : Room (k + 1) X.A) (hg : Gl X x) (hm : X.mg x = some (.ref C)) (hb : Binds X.K fd ps []) (hx : ∀ σ, PassesAt CX X σ (E σ))
    (hdb : (x == ("__debug__" : Str)) = false := by decide) : PE X (.Call (.Name x p) [] [] pos) (tMakeZ C sp E tNil) := by
  refine ⟨fun pins s σ H Q I h => ?_⟩
  refine wpAny_Call_Name_kw (ld_glob I hg hm ?_ hdb)
  exact PySem.W.callWith_K0 I.kIn M.kp (run_makeZ (us := []) (vs := []) M F hr hb hx I .nil h)
end
/-! ### promises -/
def wC (B : Bd) (tb : Store) (Oc Om : List Addr) (H : Hp) (Q : VK) (E : XK) : R D × Store → Prop
  | (.ok d, st) => ∀ v H' Om', StR B Oc Om' (st ++ tb) H' → Ext Om H Om' H' → Rep B (fz H' Oc Om') d v → Q v H'
  | (.exc c, st) => ∀ C H' Om', B.mg c = some (.ref C) → StR B Oc Om' (st ++ tb) H' → Ext Om H Om' H' → E (.ref C) none H'
  | (.stuck, _) => False
def spM (B : Bd) (tb : Store) (n : Nat) (m : List D → Store → MR D) : Sp := fun vs H Q E => ∃ Oc Om ds st, ds.length = n ∧ StR B Oc Om (st ++ tb) H ∧ RepL B (fz H Oc Om) ds vs ∧ (m ds st).all (wC B tb Oc Om H Q E)
def outM : Out × Store → R D × Store
  | (.next _, s) => (.ok .non, s)
  | (.ret d _, s) => (.ok d, s)
  | (.exc c _, s) => (.exc c, s)
  | (_, s) => (.stuck, s)
def runM (n N : Nat) (g : MS) (ds : List D) (st : Store) : MR D := if ds.length = n then (g (startD N ds) st).bind fun r => .fin (outM r) else .fin (.stuck, st)
/-- a def that may change objects -/
structure CallsM (tb : Store) (P : Program) (w : World) (K : PySem.W.Frag) (mg : Str → Option Value) (base : Heap) (x : Str) (n k : Nat) (m : List D → Store → MR D) : Prop where
  at_ : ∃ (f : Addr) (fd : FuncData) (ps : List Str), ps.length = n ∧ FnOk P w K mg base (L2.CX P w) k f fd ps (spM ⟨K, mg, P, w⟩ tb n m) ∧ mg x = some (.ref f) ∧ PySem.W.keepIn K (.ref f) = true ∧ Binds K fd ps []
  ar : ∀ ds st, ds.length ≠ n → m ds st = .fin (.stuck, st)
/-- a method of the class c -/
structure MethM (tb : Store) (P : Program) (w : World) (K : PySem.W.Frag) (mg : Str → Option Value) (base : Heap) (c x : Str) (n k : Nat) (m : List D → Store → MR D) : Prop where
  at_ : ∃ (C f : Addr) (fd : FuncData) (ps : List Str), mg c = some (.ref C) ∧ Cls K C ∧ Meth K C x f ∧ ps.length = n ∧ FnOk P w K mg base (L2.CX P w) k f fd ps (spM ⟨K, mg, P, w⟩ tb n m) ∧ Binds K fd ps []
  ar : ∀ ds st, ds.length ≠ n → m ds st = .fin (.stuck, st)
/-- a method that only looks -/
structure MethP (P : Program) (w : World) (K : PySem.W.Frag) (mg : Str → Option Value) (base : Heap) (c x : Str) (n k : Nat) (m : List D → R D) : Prop where
  at_ : ∃ (C f : Addr) (fd : FuncData) (ps : List Str), mg c = some (.ref C) ∧ Cls K C ∧ Meth K C x f ∧ ps.length = n ∧ FnOk P w K mg base (L2.CX P w) k f fd ps (spD ⟨K, mg, P, w⟩ n m) ∧ Binds K fd ps []
  ar : ∀ ds, ds.length ≠ n → m ds = .stuck
/-- the making of an object -/
structure MakeM (tb : Store) (P : Program) (w : World) (K : PySem.W.Frag) (mg : Str → Option Value) (base : Heap) (c : Str) (n k : Nat) (m : List D → Store → MR D) : Prop where
  at_ : ∃ (C f : Addr) (fd : FuncData) (ps : List Str), mg c = some (.ref C) ∧ Mk K C f ∧ ps.length = n ∧ FnOk P w K mg base (L2.CX P w) k f fd ps (spM ⟨K, mg, P, w⟩ tb n m) ∧ Binds K fd ps []
  ar : ∀ ds st, ds.length ≠ n → m ds st = .fin (.stuck, st)
section
variable {B : Bd} {W : WX} {tb : Store} {Oc Om : List Addr} {σd : Sd} {st : Store} {σ : L2.St} {H H' : Hp}
/-- what a callee wants, and what comes of it -/
theorem call_spM {n : Nat} {m : List D → Store → MR D} {ds : List D} {vs : List V} {Q : VK} (s : SRs B Oc Om σd (st ++ tb) σ H) (r : RepL B (fz H Oc Om) ds vs) (hn : ds.length = n) (h : (m ds st).all (wX (Rep B) B W tb Oc Om H σd σ Q)) : spM B tb n m vs H Q (WE W σ) := by
  obtain ⟨Oa, Ob, sb, e1, k⟩ := SR.right s s.len
  refine ⟨Oa ++ Oc, Ob, ds, st, hn, sb, by rw [e1]; exact r, T.all_imp (fun r hr => ?_) h⟩
  obtain ⟨r, st1⟩ := r
  have ez : ∀ {Ob' : List Addr} {H' : Hp}, fz H' (Oa ++ Oc) Ob' = fz H' Oc (Oa ++ Ob') := fzB
  cases r with
  | ok d => exact fun v H' Om' s' x r' => hr v H' _ (k _ _ _ _ s' x).1 (k _ _ _ _ s' x).2 (by rw [← ez]; exact r')
  | exc c => exact fun C H' Om' hc s' x => hr C H' _ hc (k _ _ _ _ s' x).1 (k _ _ _ _ s' x).2
  | stuck => exact hr
theorem fnOkM {P : Program} {w : World} {K : PySem.W.Frag} {mg : Str → Option Value} {base : Heap} {x' qual : Str} {params : Arguments} {body : List Stmt} {scope : Scope} {f : Addr} {fd : FuncData} {N ps : List Str} {k : Nat} {g : MS}
    (F : FunD K x' qual params body scope [] [] f fd) (S : FnScope N ps scope)
    (hbody : ∀ (cdv : Value) (A : Around) (outer : List Env) (s : Shared) (H : Hp) (E : XK), CtxD (cxOf (L2.CX P w) P w K mg base N qual scope f cdv A outer s H E) (WE0 E) k →
      SMs tb (cxOf (L2.CX P w) P w K mg base N qual scope f cdv A outer s H E) (WE0 E) body g) : FnOk P w K mg base (L2.CX P w) (k + 1) f fd ps (spM ⟨K, mg, P, w⟩ tb ps.length (runM ps.length N.length g)) := by
  refine F.ok S (fun vs H Q E h => ?_) (fun cdv A outer s H vs Q E hr h => ⟨_, hbody cdv A outer s H E ⟨hr, takes_of rfl rfl rfl rfl, passes_of rfl⟩, ?_⟩)
  · obtain ⟨Oc, Om, ds, st, h1, _, h2, _⟩ := h
    rw [h2.length, h1]
  · obtain ⟨Oc, Om, ds, st, h1, h0, h2, h3⟩ := h
    unfold runM at h3
    rw [if_pos h1] at h3
    have hl : vs.length = ds.length := h2.length
    have sl : SR ⟨K, mg, P, w⟩ (Om ++ Oc) [] (startD N.length ds) (L2.start N vs) H := by
      refine ⟨fun a ha => h0.1 a (by simpa [or_comm] using ha), [], ?_, List.nodup_nil, by simp⟩
      unfold startD L2.start
      rw [List.append_nil, hl, minus_congr (O' := Oc ++ Om) (fun x => by simp [or_comm])]
      exact slots_start _ h2
    have s0 : SRs ⟨K, mg, P, w⟩ Oc ([] ++ Om) (startD N.length ds) (st ++ tb) (L2.start N vs) H := SR.both sl (by simpa using h0)
    refine ⟨Oc, Om, startD N.length ds, st, s0, T.all_imp (fun r hr => ?_) (T.all_bind.mp h3)⟩
    obtain ⟨o, st1⟩ := r
    have fin : ∀ {σ1 : Sd} {σ' : L2.St} {Om' : List Addr} {H' : Hp}, SRs ⟨K, mg, P, w⟩ Oc Om' σ1 (st1 ++ tb) σ' H' → Ext Om H Om' H' → StR ⟨K, mg, P, w⟩ Oc Om' (st1 ++ tb) H' := fun {σ1 σ' Om' H'} s' x => by
      have hl := s'.len
      obtain ⟨h1, fp, h2, h3, h4⟩ := s'
      obtain ⟨f1, f2, rfl, k1, k2⟩ := SlotsR.apart hl h2
      obtain ⟨n1, n2, n3⟩ := List.nodup_append.mp h3
      exact ⟨h1, f2, k2, n2, fun a ha => h4 a (by simp [ha])⟩
    cases o with
    | next σ1 => exact fun σ' Om' H' s' x => hr .non H' Om' (fin s' x) x rfl
    | ret d σ1 => exact fun v σ' Om' H' s' x r => hr v H' Om' (fin s' x) x r
    | brk σ1 => exact hr.elim
    | cont σ1 => exact hr.elim
    | exc c σ1 => exact fun C σ' Om' H' hc s' x => hr C H' Om' hc (fin s' x) x
    | stuck => exact hr.elim
end
/-! ### calls -/
def mCall (m : List D → Store → MR D) (fs : MA) : ME := fun σ st => bindM (fs σ st) fun ds st1 => m ds st1
/-- o.x(..): m at the object and the arguments -/
def methAt (c x : Str) (st : Store) (d : D) : Bool := match obAt c st d with
  | some (_, ks, _) => decide (x ∉ ks)
  | none => false
def mMeth (c x : Str) (m : List D → Store → MR D) (fo : ME) (fs : MA) : ME := fun σ st => bindM (fo σ st) fun d st1 => if methAt c x st1 d = true then bindM (fs σ st1) fun ds st2 => m (d :: ds) st2 else .fin (.stuck, st1)
/-- an object stands already at p -/
def usedO (st : Store) (p : Addr) : Bool := match lk st p with
  | some (.oi _ _ _) => true
  | some (.ol _) => true
  | _ => false
def makeOut (p : Addr) : R D × Store → MR D
  | (.ok .non, st) => .fin (.ok (.ob p), st)
  | (.ok _, st) => .fin (.stuck, st)
  | r => .fin r
def mMake (c : Str) (m : List D → Store → MR D) (fs : MA) : ME := fun σ st => bindM (fs σ st) fun ds st1 => .new fun p => if usedO st1 p = true then .no else (m (.ob p :: ds) ((p, .oi c [] []) :: st1)).bind (makeOut p)
/-- a def that only looks, at what its arguments show -/
def mCallV (m : List D → R D) (fs : MA) : ME := fun σ st => bindM (fs σ st) fun ds st1 => .fin (m (ds.map (vw st1)) >>= clean1, st1)
def mCallP (m : List D → R D) (fs : MA) : ME := fun σ st => bindM (fs σ st) fun ds st1 => .fin (m ds, st1)
section
variable {X : Cx} {W : WX} {tb : Store} {e o : Expr} {es : List Expr} {fo : ME} {fs : MA} {pos apos p : Pos} {n k k' : Nat} {x c : Str}
theorem em_call {m : List D → Store → MR D} (tk : Takes X W) (hr : Room k' X.A) (hk : k ≤ k') (h : CallsM tb X.prog X.w X.K X.mg X.base x n k m) (hg : Gl X x) (ha : AM tb X W (e :: es) fs)
    (hdb : (x == ("__debug__" : Str)) = false := by decide) (he : starEach (e :: es) X.env = (false, eval e X.env) :: starEach es X.env := by rfl) (hpl : (backTo pos (starEach es X.env)).any (·.1) = false := by rfl) :
    EM tb X W (.Call (.Name x p) (e :: es) [] pos) (mCall m fs) := by
  obtain ⟨f, fd, ps, hn, F, hm, hkp, hb⟩ := h.at_
  refine pe_imp (pe_callS F (hr.mono hk) hg hm hkp hb (fun σ => passAt tk σ) ha hdb he hpl) fun σ H Q ⟨Oc, Om, σd, st, s, q⟩ => tX_seq s q fun ds st1 vs H1 Om1 s1 x1 r1 h1 => ?_
  by_cases z : ds.length = n
  · exact call_spM s1 r1 z h1
  · rw [h.ar ds st1 z] at h1
    exact h1.elim
theorem no_lookup {x : Str} : ∀ {ks : List Str} {vs : List V}, x ∉ ks → (ks.zip vs).lookup x = none
  | [], _, _ => rfl
  | k :: ks, [], _ => rfl
  | k :: ks, v :: vs, h => by
    rw [List.mem_cons, not_or] at h
    have hb : (x == k) = false := beq_eq_false_iff_ne.mpr h.1
    simp only [List.zip_cons_cons, List.lookup, hb]
    exact no_lookup h.2
theorem methAt_ok {d : D} {v : V} {st : Store} {σd : Sd} {σ : L2.St} {H : Hp} {B : Bd} {Oc Om : List Addr} (s : SRs B Oc Om σd (st ++ tb) σ H) (r : Rep B (fz H Oc Om) d v) (h : methAt c x st d = true) :
    ∃ p C dx fs, v = .ref p ∧ B.mg c = some (.ref C) ∧ H p = some (.ins C dx fs) ∧ fs.lookup x = none := by
  unfold methAt at h
  cases q : obAt c st d with
  | none => rw [q] at h; cases h
  | some z =>
    obtain ⟨p, ks, ds⟩ := z
    rw [q] at h
    obtain ⟨rfl, q2⟩ := obAt_some q
    obtain ⟨dx, C, vs, fq, k1, k2, k3, k4⟩ := s.obj q2
    cases (show v = .ref p from r)
    exact ⟨p, C, dx, _, rfl, k1, k3, no_lookup (of_decide_eq_true h)⟩
theorem em_meth {m : List D → Store → MR D} (tk : Takes X W) (hr : Room k' X.A) (hk : k ≤ k') (h : MethM tb X.prog X.w X.K X.mg X.base c x n k m) (ho : EM tb X W o fo) (ha : AM tb X W (e :: es) fs) {pl : Sem Bool}
    (hst : starEach (e :: es) X.env = (false, eval e X.env) :: starEach es X.env := by rfl) (hpl : (backTo pos (starEach es X.env)).any (·.1) = false := by rfl)
    (ht : eval (.Call (.Attribute o x apos) (e :: es) [] pos) X.env = (do
      let ov ← eval o X.env
      standAt apos.atName
      let (f, first) ← holding [ov] (getMethod ov x pl)
      callWith pos f first (backTo pos (starEach (e :: es) X.env)) (backToKw pos (keywordEach [] X.env))) := by rfl) : EM tb X W (.Call (.Attribute o x apos) (e :: es) [] pos) (mMeth c x m fo fs) := by
  obtain ⟨C, f, fd, ps, hC, hcl, hme, hn, F, hb⟩ := h.at_
  refine pe_imp (pe_methZ (pl := pl) ho hcl hme F (hr.mono hk) hb (fun σ => passAt tk σ) ha hst hpl ht) fun σ H Q ⟨Oc, Om, σd, st, s, q⟩ => tX_seq s q fun d st1 v H1 Om1 s1 x1 r1 h1 => ?_
  by_cases z : methAt c x st1 d = true
  · rw [if_pos z] at h1
    obtain ⟨p, C', dx, fs', rfl, k1, k2, k3⟩ := methAt_ok s1 r1 z
    rw [show X.mg c = _ from k1] at hC
    cases hC
    refine ⟨p, dx, fs', rfl, k2, k3, tX_seq s1 h1 fun ds st2 vs H2 Om2 s2 x2 r2 h2 => ?_⟩
    by_cases w : (d :: ds).length = n
    · exact call_spM s2 (.cons (repX x2 r1) r2) w h2
    · rw [h.ar _ st2 w] at h2
      exact h2.elim
  · rw [if_neg z] at h1; exact h1.elim
theorem em_meth0 {m : List D → Store → MR D} (tk : Takes X W) (hr : Room k' X.A) (hk : k ≤ k') (h : MethM tb X.prog X.w X.K X.mg X.base c x n k m) (ho : EM tb X W o fo) {pl : Sem Bool}
    (ht : eval (.Call (.Attribute o x apos) [] [] pos) X.env = (do
      let ov ← eval o X.env
      standAt apos.atName
      let (f, first) ← holding [ov] (getMethod ov x pl)
      callWith pos f first (backTo pos (starEach [] X.env)) (backToKw pos (keywordEach [] X.env))) := by rfl) : EM tb X W (.Call (.Attribute o x apos) [] [] pos) (mMeth c x m fo mNil) := by
  obtain ⟨C, f, fd, ps, hC, hcl, hme, hn, F, hb⟩ := h.at_
  refine pe_imp (pe_methZ0 (pl := pl) ho hcl hme F (hr.mono hk) hb (fun σ => passAt tk σ) ht) fun σ H Q ⟨Oc, Om, σd, st, s, q⟩ => tX_seq s q fun d st1 v H1 Om1 s1 x1 r1 h1 => ?_
  by_cases z : methAt c x st1 d = true
  · rw [if_pos z] at h1
    obtain ⟨p, C', dx, fs', rfl, k1, k2, k3⟩ := methAt_ok s1 r1 z
    rw [show X.mg c = _ from k1] at hC
    cases hC
    refine ⟨p, dx, fs', rfl, k2, k3, ?_⟩
    by_cases w : [d].length = n
    · exact call_spM s1 (.cons r1 .nil) w h1
    · replace h1 : (m [d] st1).all _ := h1
      rw [h.ar _ st1 w] at h1
      exact h1.elim
  · rw [if_neg z] at h1; exact h1.elim
theorem usedO_no {B : Bd} {Oc Om : List Addr} {σd : Sd} {st : Store} {σ : L2.St} {H : Hp} {p : Addr} (s : SRs B Oc Om σd (st ++ tb) σ H) (hp : H p = none) : usedO st p = false := by
  unfold usedO
  split
  · rename_i c ks ds e
    obtain ⟨dx, C, vs, fq, k1, k2, k3, k4⟩ := s.obj e
    rw [hp] at k3; cases k3
  · rename_i xs e
    obtain ⟨fp, h1, _⟩ := s.entry (lk_append (tb := tb) e)
    unfold OR at h1
    obtain ⟨p', vs, e1, h2, _⟩ := h1
    cases e1
    rw [hp] at h2; cases h2
  · rfl
/-- a new object stands in the store -/
theorem SRs.made {B : Bd} {Oc Om : List Addr} {σd : Sd} {st : Store} {σ : L2.St} {H : Hp} {p dx C : Addr} (s : SRs B Oc Om σd st σ H) (hC : B.mg c = some (.ref C)) (hp : H p = none) (hd : H dx = none) (ne : dx ≠ p) :
    SRs B Oc ([p, dx] ++ Om) σd ((p, .oi c [] []) :: st) σ (upd (upd H dx (.own p)) p (.ins C dx [])) ∧ Same H (upd (upd H dx (.own p)) p (.ins C dx [])) := by
  have e : Same H (upd (upd H dx (.own p)) p (.ins C dx [])) := (same_upd hd).trans (same_upd (by rw [upd_ne (Ne.symm ne)]; exact hp))
  have h1 : upd (upd H dx (.own p)) p (.ins C dx []) p = some (.ins C dx []) := upd_same
  have h2 : upd (upd H dx (.own p)) p (.ins C dx []) dx = some (.own p) := by rw [upd_ne ne, upd_same]
  refine ⟨s.add e (fun a ha => ?_) (fun a ha => ?_) (by simp [Ne.symm ne]) ?_, e⟩
  · rcases List.mem_cons.mp ha with z | z
    · rw [z]; exact hp
    · rw [List.mem_singleton.mp z]; exact hd
  · rcases List.mem_cons.mp ha with z | z
    · rw [z, h1]; exact fun q => nomatch q
    · rw [List.mem_singleton.mp z, h2]; exact fun q => nomatch q
  · unfold OR
    exact ⟨p, dx, C, [], [], rfl, hC, rfl, h1, h2, rfl, by unfold ORL; exact ⟨rfl, rfl⟩⟩
theorem make_spM {C : Addr} {m : List D → Store → MR D} {Oc Om : List Addr} {σd : Sd} {st : Store} {σ : L2.St} {H : Hp} {ds : List D} {vs : List V} {Q : VK} (hC : X.mg c = some (.ref C)) (s : SRs (bdOf X) Oc Om σd (st ++ tb) σ H) (r : RepL (bdOf X) (fz H Oc Om) ds vs) (ar : ∀ ds st, ds.length ≠ n → m ds st = .fin (.stuck, st))
    (h : (T.new fun p => if usedO st p = true then .no else (m (.ob p :: ds) ((p, .oi c [] []) :: st)).bind (makeOut p)).all (wX (Rep (bdOf X)) (bdOf X) W tb Oc Om H σd σ Q)) :
    ∀ x dx, H x = none → H dx = none → dx ≠ x → spM (bdOf X) tb n m (.ref x :: vs) (upd (upd H dx (.own x)) x (.ins C dx [])) (fun v H2 => v = .non ∧ Q (.ref x) H2) (WE W σ) := by
  intro p dx hp hd ne
  have h2 : (if usedO st p = true then T.no else (m (.ob p :: ds) ((p, .oi c [] []) :: st)).bind (makeOut p)).all (wX (Rep (bdOf X)) (bdOf X) W tb Oc Om H σd σ Q) := h p
  rw [usedO_no s hp] at h2
  replace h2 : ((m (.ob p :: ds) ((p, .oi c [] []) :: st)).bind (makeOut p)).all _ := h2
  obtain ⟨s2, e2⟩ := SRs.made (c := c) s hC hp hd ne
  have x2 : Ext Om H ([p, dx] ++ Om) (upd (upd H dx (.own p)) p (.ins C dx [])) := ⟨fun b o _ q => e2 b o q, fun a ha => by
    rcases List.mem_append.mp ha with z | z
    · rcases List.mem_cons.mp z with z | z
      · rw [z]; exact .inr hp
      · rw [List.mem_singleton.mp z]; exact .inr hd
    · exact .inl z⟩
  have r2 : RepL (bdOf X) (fz (upd (upd H dx (.own p)) p (.ins C dx [])) Oc ([p, dx] ++ Om)) (.ob p :: ds) (.ref p :: vs) := .cons rfl (replX x2 r)
  by_cases w : (D.ob p :: ds).length = n
  · refine call_spM (W := W) (tb := tb) (st := (p, .oi c [] []) :: st) s2 r2 w (T.all_imp (fun r hr => ?_) (T.all_bind.mp h2))
    obtain ⟨r, st1⟩ := r
    cases r with
    | ok d =>
      cases d with
      | non => exact fun v H' Om' s' x r => ⟨r, hr (.ref p) H' Om' s' (x2.trans x) rfl⟩
      | _ => exact hr.elim
    | exc c => exact fun C H' Om' hc s' x => hr C H' Om' hc s' (x2.trans x)
    | stuck => exact hr.elim
  · rw [ar _ _ w] at h2
    exact h2.elim
theorem em_make {m : List D → Store → MR D} (tk : Takes X W) (hr : Room k' X.A) (hk : k + 1 ≤ k') (h : MakeM tb X.prog X.w X.K X.mg X.base c n k m) (hg : Gl X c) (ha : AM tb X W (e :: es) fs)
    (hdb : (c == ("__debug__" : Str)) = false := by decide) (he : starEach (e :: es) X.env = (false, eval e X.env) :: starEach es X.env := by rfl) (hpl : (backTo pos (starEach es X.env)).any (·.1) = false := by rfl) :
    EM tb X W (.Call (.Name c p) (e :: es) [] pos) (mMake c m fs) := by
  obtain ⟨C, f, fd, ps, hC, M, hn, F, hb⟩ := h.at_
  exact pe_imp (pe_makeZ M F (hr.mono hk) hg hC hb (fun σ => passAt tk σ) ha hdb he hpl) fun σ H Q ⟨Oc, Om, σd, st, s, q⟩ => tX_seq s q fun ds st1 vs H1 Om1 s1 x1 r1 h1 => make_spM hC s1 r1 h.ar h1
theorem em_make0 {m : List D → Store → MR D} (tk : Takes X W) (hr : Room k' X.A) (hk : k + 1 ≤ k') (h : MakeM tb X.prog X.w X.K X.mg X.base c n k m) (hg : Gl X c)
    (hdb : (c == ("__debug__" : Str)) = false := by decide) : EM tb X W (.Call (.Name c p) [] [] pos) (mMake c m mNil) := by
  obtain ⟨C, f, fd, ps, hC, M, hn, F, hb⟩ := h.at_
  exact pe_imp (pe_makeZ0 M F (hr.mono hk) hg hC hb (fun σ => passAt tk σ) hdb) fun σ H Q ⟨Oc, Om, σd, st, s, q⟩ => make_spM hC s .nil h.ar q
/-- a def that only looks, called with what may change -/
theorem em_callV {m : List D → R D} (tk : Takes X W) (hr : Room k' X.A) (hk : k ≤ k') (h : Calls X.prog X.w X.K X.mg X.base x n k m) (hg : Gl X x) (ha : AM tb X W (e :: es) fs)
    (hdb : (x == ("__debug__" : Str)) = false := by decide) (he : starEach (e :: es) X.env = (false, eval e X.env) :: starEach es X.env := by rfl) (hpl : (backTo pos (starEach es X.env)).any (·.1) = false := by rfl) :
    EM tb X W (.Call (.Name x p) (e :: es) [] pos) (mCallV m fs) := by
  obtain ⟨f, fd, ps, hn, F, hm, hkp, hb⟩ := h.at_
  refine pe_imp (pe_callS F (hr.mono hk) hg hm hkp hb (fun σ => passAt tk σ) ha hdb he hpl) fun σ H Q ⟨Oc, Om, σd, st, s, q⟩ => tX_seq s q fun ds st1 vs H1 Om1 s1 x1 r1 h1 => ?_
  obtain ⟨Oa, sa, k1, _, _, _, _, kv⟩ := s1.look
  have rv : ∀ {ds : List D} {vs : List V}, RepL (bdOf X) (fz H1 Oc Om1) ds vs → RepL (bdOf X) (fz H1 Oc Oa) (ds.map (vw st1)) vs := by
    intro ds
    induction ds with
    | nil => exact fun r => r
    | cons d ds ih =>
      rintro _ ⟨v, w, rfl, r1, r2⟩
      exact ⟨v, w, rfl, kv d v r1, ih r2⟩
  refine ⟨Oc ++ Oa, ds.map (vw st1), ?_, sa.1, rv r1, ?_⟩
  · by_cases z : (ds.map (vw st1)).length = n
    · exact z
    · rw [h.ar _ z] at h1
      exact h1.elim
  · replace h1 : wX (Rep (bdOf X)) (bdOf X) W tb Oc Om1 H1 σd σ Q (m (ds.map (vw st1)) >>= clean1, st1) := h1
    cases q : m (ds.map (vw st1)) with
    | ok d =>
      rw [q] at h1
      replace h1 : wX (Rep (bdOf X)) (bdOf X) W tb Oc Om1 H1 σd σ Q (clean1 d, st1) := h1
      unfold clean1 at h1
      by_cases z : pureD d = true
      · rw [if_pos z] at h1
        exact fun v H' e r => h1 v H' Om1 (s1.same e) (.of_same e) (k1 d v H' e z r)
      · rw [if_neg z] at h1; exact h1.elim
    | exc c => rw [q] at h1; exact fun C H' hc e => h1 C H' Om1 hc (s1.same e) (.of_same e)
    | stuck => rw [q] at h1; exact h1
theorem em_callP {m : List D → R D} (tk : Takes X W) (hr : Room k' X.A) (hk : k ≤ k') (h : Calls X.prog X.w X.K X.mg X.base x n k m) (hg : Gl X x) (ha : AM tb X W (e :: es) fs)
    (hdb : (x == ("__debug__" : Str)) = false := by decide) (he : starEach (e :: es) X.env = (false, eval e X.env) :: starEach es X.env := by rfl) (hpl : (backTo pos (starEach es X.env)).any (·.1) = false := by rfl) :
    EM tb X W (.Call (.Name x p) (e :: es) [] pos) (mCallP m fs) := by
  obtain ⟨f, fd, ps, hn, F, hm, hkp, hb⟩ := h.at_
  refine pe_imp (pe_callS F (hr.mono hk) hg hm hkp hb (fun σ => passAt tk σ) ha hdb he hpl) fun σ H Q ⟨Oc, Om, σd, st, s, q⟩ => tX_seq s q fun ds st1 vs H1 Om1 s1 x1 r1 h1 => ?_
  refine ⟨Oc ++ Om1, ds, ?_, s1.1, r1, ?_⟩
  · by_cases z : ds.length = n
    · exact z
    · rw [h.ar ds z] at h1
      exact h1.elim
  · replace h1 : wX (Rep (bdOf X)) (bdOf X) W tb Oc Om1 H1 σd σ Q (m ds, st1) := h1
    cases q : m ds with
    | ok d => rw [q] at h1; exact fun v H' e r => h1 v H' Om1 (s1.same e) (.of_same e) r
    | exc c => rw [q] at h1; exact fun C H' hc e => h1 C H' Om1 hc (s1.same e) (.of_same e)
    | stuck => rw [q] at h1; exact h1
end
end FF
set_option maxHeartbeats 4000000
/-! what only looks; fields set; lists of objects -/
namespace FF
open PySem PySem.Spec PyProof.Rows L2
/-! ### o.x(..) of what stands still -/
def methI (c x : Str) (d : D) : Bool := match instAt c d with
  | some (ks, _) => decide (x ∉ ks)
  | none => false
def eMeth (c x : Str) (m : List D → R D) (fo : DE) (fs : Sd → R (List D)) : DE := fun σ => fo σ >>= fun d => if methI c x d = true then fs σ >>= fun ds => m (d :: ds) else .stuck
section
variable {X : Cx} {W : WX} {tb : Store} {e o : Expr} {es : List Expr} {fo : DE} {fs : Sd → R (List D)} {pos apos p : Pos} {n k k' : Nat} {x c : Str}
theorem methI_ok {d : D} {v : V} {G : Hp} {B : Bd} (r : Rep B G d v) (h : methI c x d = true) : ∃ p C dx fs, v = .ref p ∧ B.mg c = some (.ref C) ∧ G p = some (.ins C dx fs) ∧ fs.lookup x = none := by
  unfold methI at h
  cases q : instAt c d with
  | none => rw [q] at h; cases h
  | some z =>
    obtain ⟨ks, ds⟩ := z
    rw [q] at h
    have q2 := instAt_some q
    subst q2
    obtain ⟨a, dx, C, vs, rfl, k1, k2, k3, k4⟩ := (show ∃ a dx C vs, v = .ref a ∧ B.mg c = some (.ref C) ∧ ks.length = vs.length ∧ G a = some (HO.ins C dx (ks.zip vs)) ∧ RepL B G ds vs by unfold Rep at r; exact r)
    exact ⟨a, C, dx, _, rfl, k1, k3, no_lookup (of_decide_eq_true h)⟩
theorem ed_meth {m : List D → R D} (tk : Takes X W) (hr : Room k' X.A) (hk : k ≤ k') (h : MethP X.prog X.w X.K X.mg X.base c x n k m) (ho : ED X W o fo) (ha : AD X W (e :: es) fs) {pl : Sem Bool}
    (hst : starEach (e :: es) X.env = (false, eval e X.env) :: starEach es X.env := by rfl) (hpl : (backTo pos (starEach es X.env)).any (·.1) = false := by rfl)
    (ht : eval (.Call (.Attribute o x apos) (e :: es) [] pos) X.env = (do
      let ov ← eval o X.env
      standAt apos.atName
      let (f, first) ← holding [ov] (getMethod ov x pl)
      callWith pos f first (backTo pos (starEach (e :: es) X.env)) (backToKw pos (keywordEach [] X.env))) := by rfl) : ED X W (.Call (.Attribute o x apos) (e :: es) [] pos) (eMeth c x m fo fs) := by
  obtain ⟨C, f, fd, ps, hC, hcl, hme, hn, F, hb⟩ := h.at_
  refine pe_imp (pe_methZ (pl := pl) ho hcl hme F (hr.mono hk) hb (fun σ => passAt tk σ) ha hst hpl ht) fun σ H Q ⟨Oc, Om, σd, s, q⟩ => tD_seq s q fun d v H1 e1 r1 s1 h1 => ?_
  by_cases z : methI c x d = true
  · rw [if_pos z] at h1
    obtain ⟨p, C', dx, fs', rfl, k1, k2, k3⟩ := methI_ok r1 z
    rw [show X.mg c = _ from k1] at hC
    cases hC
    refine ⟨p, dx, fs', rfl, fz_sub k2, k3, tDA_seq s1 h1 fun ds vs H2 e2 r2 s2 h2 => ?_⟩
    refine ⟨Oc ++ Om, d :: ds, ?_, s2.1, .cons (r1.mono (same_minus e2)) r2, R.post_imp h2 (fun d _ p v H' e' r => p v H' (e1.trans (e2.trans e')) r) fun c _ z => z⟩
    by_cases w : (d :: ds).length = n
    · exact w
    · rw [h.ar _ w] at h2
      exact h2.elim
  · rw [if_neg z] at h1; exact h1.elim
theorem ed_meth0 {m : List D → R D} (tk : Takes X W) (hr : Room k' X.A) (hk : k ≤ k') (h : MethP X.prog X.w X.K X.mg X.base c x n k m) (ho : ED X W o fo) {pl : Sem Bool}
    (ht : eval (.Call (.Attribute o x apos) [] [] pos) X.env = (do
      let ov ← eval o X.env
      standAt apos.atName
      let (f, first) ← holding [ov] (getMethod ov x pl)
      callWith pos f first (backTo pos (starEach [] X.env)) (backToKw pos (keywordEach [] X.env))) := by rfl) : ED X W (.Call (.Attribute o x apos) [] [] pos) (eMeth c x m fo aNil) := by
  obtain ⟨C, f, fd, ps, hC, hcl, hme, hn, F, hb⟩ := h.at_
  refine pe_imp (pe_methZ0 (pl := pl) ho hcl hme F (hr.mono hk) hb (fun σ => passAt tk σ) ht) fun σ H Q ⟨Oc, Om, σd, s, q⟩ => tD_seq s q fun d v H1 e1 r1 s1 h1 => ?_
  by_cases z : methI c x d = true
  · rw [if_pos z] at h1
    obtain ⟨p, C', dx, fs', rfl, k1, k2, k3⟩ := methI_ok r1 z
    rw [show X.mg c = _ from k1] at hC
    cases hC
    refine ⟨p, dx, fs', rfl, fz_sub k2, k3, ?_⟩
    replace h1 : (m [d]).post _ _ := h1
    refine ⟨Oc ++ Om, [d], ?_, s1.1, .cons r1 .nil, R.post_imp h1 (fun d _ p v H' e' r => p v H' (e1.trans e') r) fun c _ z => z⟩
    by_cases w : [d].length = n
    · exact w
    · rw [h.ar _ w] at h1
      exact h1.elim
  · rw [if_neg z] at h1; exact h1.elim
end
/-! ### what only looks, the store beside it -/
abbrev RE := Sd → Store → R D
def tR (B : Bd) (W : WX) (tb : Store) (f : RE) : TE := fun σ H Q => ∃ Oc Om σd st, SRs B Oc Om σd (st ++ tb) σ H ∧ (f σd st).post (fun d => ∀ v H', Same H H' → Rep B (fz H' Oc Om) d v → Q v H') (exE B W σ H)
def tRA (B : Bd) (W : WX) (tb : Store) (f : Sd → Store → R (List D)) : TA := fun σ H Q => ∃ Oc Om σd st, SRs B Oc Om σd (st ++ tb) σ H ∧ (f σd st).post (fun d => ∀ v H', Same H H' → RepL B (fz H' Oc Om) d v → Q v H') (exE B W σ H)
abbrev RD (tb : Store) (X : Cx) (W : WX) (e : Expr) (f : RE) : Prop := PE X e (tR (bdOf X) W tb f)
abbrev RA (tb : Store) (X : Cx) (W : WX) (es : List Expr) (f : Sd → Store → R (List D)) : Prop := PA X es (tRA (bdOf X) W tb f)
def rUp (f : DE) : RE := fun σ _ => f σ
def rView (f : DE) : RE := fun σ st => f (viewS st σ) >>= clean1
def rNil : Sd → Store → R (List D) := fun _ _ => .ok []
def rCons (f : RE) (g : Sd → Store → R (List D)) : Sd → Store → R (List D) := fun σ st => f σ st >>= fun d => g σ st >>= fun ds => .ok (d :: ds)
def rFld (c f : Str) (fo : RE) : RE := fun σ st => fo σ st >>= fldR c f st
def rOL (g : List D → R D) (fs : Sd → Store → R (List D)) : RE := fun σ st => fs σ st >>= fun ds => (g ds).quiet
def mRd (f : RE) : ME := fun σ st => .fin (f σ st, st)
section
variable {X : Cx} {W : WX} {tb : Store} {e o : Expr} {es : List Expr} {fe fo : RE} {f : DE} {fs : Sd → Store → R (List D)} {pos : Pos}
theorem tR_seq {B : Bd} {W : WX} {Oc Om : List Addr} {σd : Sd} {st : Store} {σ : L2.St} {H : Hp} {β : Type} {f : RE} {k : D → R β} {P : β → Prop} {Q1 : VK} (s : SRs B Oc Om σd (st ++ tb) σ H) (h : (f σd st >>= k).post P (exE B W σ H))
    (hk : ∀ d v H1, Same H H1 → Rep B (fz H1 Oc Om) d v → SRs B Oc Om σd (st ++ tb) σ H1 → (k d).post P (exE B W σ H1) → Q1 v H1) : tR B W tb f σ H Q1 := by
  refine ⟨Oc, Om, σd, st, s, R.post_imp (R.post_bind h) (fun d _ p v H1 e r => ?_) (fun c _ q => q)⟩
  exact hk d v H1 e r (s.same e) (R.post_imp p (fun _ _ q => q) fun c _ q => q.mono e)
theorem tRA_seq {B : Bd} {W : WX} {Oc Om : List Addr} {σd : Sd} {st : Store} {σ : L2.St} {H : Hp} {β : Type} {f : Sd → Store → R (List D)} {k : List D → R β} {P : β → Prop} {Q1 : List V → Hp → Prop} (s : SRs B Oc Om σd (st ++ tb) σ H) (h : (f σd st >>= k).post P (exE B W σ H))
    (hk : ∀ d v H1, Same H H1 → RepL B (fz H1 Oc Om) d v → SRs B Oc Om σd (st ++ tb) σ H1 → (k d).post P (exE B W σ H1) → Q1 v H1) : tRA B W tb f σ H Q1 := by
  refine ⟨Oc, Om, σd, st, s, R.post_imp (R.post_bind h) (fun d _ p v H1 e r => ?_) (fun c _ q => q)⟩
  exact hk d v H1 e r (s.same e) (R.post_imp p (fun _ _ q => q) fun c _ q => q.mono e)
theorem rd_up (h : ED X W e f) : RD tb X W e (rUp f) := pe_imp h fun σ H Q ⟨Oc, Om, σd, st, s, h⟩ => by
  obtain ⟨Oa, Ob, sa, e1, e2, _⟩ := s.up
  exact ⟨Ob ++ Oc, Oa, σd, sa, R.post_imp h (fun d _ p v H' e r => p v H' e (by rw [← e2 H' e]; exact r)) fun _ _ q => q⟩
theorem rd_view (h : ED X W e f) : RD tb X W e (rView f) := pe_imp h fun σ H Q ⟨Oc, Om, σd, st, s, h⟩ => by
  obtain ⟨Oa, sa, k1, _⟩ := s.look
  refine ⟨Oc, Oa, _, sa, R.post_imp (R.post_bind h) (fun d _ p v H' e r => ?_) fun _ _ q => q⟩
  unfold clean1 at p
  by_cases z : pureD d = true
  · rw [if_pos z] at p
    exact p v H' e (k1 d v H' e z r)
  · rw [if_neg z] at p; exact p.elim
theorem ra_nil : RA tb X W [] rNil := pa_imp pa_nil fun σ H Q ⟨Oc, Om, σd, st, s, h⟩ => h [] H (Same.refl _) .nil
theorem ra_cons (ha : RD tb X W e fe) (hr : RA tb X W es fs) (hs : starEach (e :: es) X.env = (false, eval e X.env) :: starEach es X.env := by rfl) : RA tb X W (e :: es) (rCons fe fs) :=
  pa_imp (pa_cons ha hr hs) fun σ H Q ⟨Oc, Om, σd, st, s, h⟩ => tR_seq s h fun d v H1 e1 r1 s1 h1 => tRA_seq s1 h1 fun ds vs H2 e2 r2 s2 h2 => h2 _ H2 (e1.trans e2) (.cons (r1.mono (same_minus e2)) r2)
theorem rd_tup {x1 : Nat} (h : RA tb X W es fs) : RD tb X W (.Tuple es x1 pos) (rOL mkTup fs) :=
  pe_imp (pe_tup h) fun σ H Q ⟨Oc, Om, σd, st, s, h⟩ => tRA_seq s h fun ds vs H1 e1 rs s1 h1 => by
    unfold mkTup at h1
    split at h1
    · rename_i q
      refine ⟨by rw [rs.length]; exact q, fun p hp => h1 _ _ (e1.trans (same_upd hp)) (rep_tupNew s1.1 hp rs)⟩
    · exact h1.elim
theorem rd_fld {c f : Str} {fs : List Str} (F : ClsF X.K X.mg c fs) (hf : f ∈ fs := by decide) (he : RD tb X W o fo) (hb : attributeBase o f X.env (eval o X.env) = eval o X.env := by rfl) : RD tb X W (.Attribute o f pos) (rFld c f fo) :=
  pe_imp (pe_fld he hb) fun σ H Q ⟨Oc, Om, σd, st, s, h⟩ => tR_seq s h fun d v H1 e1 r1 s1 h1 => by
    unfold fldR at h1
    cases q : obAt c st d with
    | none => rw [q] at h1; exact h1.elim
    | some z =>
      obtain ⟨p, ks, ds⟩ := z
      rw [q] at h1
      obtain ⟨rfl, q2⟩ := obAt_some q
      replace h1 : (flatO (fget f ks ds)).post _ _ := h1
      cases q3 : flatO (fget f ks ds) with
      | stuck => rw [q3] at h1; exact h1.elim
      | exc c => exact absurd q3 flatO_exc
      | ok d =>
        rw [q3] at h1
        obtain ⟨g1, g2⟩ := flatO_ok q3
        obtain ⟨dx, C, vs, fq, k1, k2, k3, k4⟩ := s1.obj q2
        obtain ⟨v', g, e1', e2, _⟩ := k4.at g1
        obtain ⟨C', m1, m2, m3⟩ := F.at_
        rw [show X.mg c = _ from k1] at m1
        cases m1
        cases (show v = .ref p from r1)
        exact ⟨p, C, dx, _, v', rfl, k3, m2, m3 f hf, e1', h1 v' H1 e1 ((OR_frz g2).mp e2).2⟩
theorem em_rd (h : RD tb X W e fe) : EM tb X W e (mRd fe) := pe_imp h fun σ H Q ⟨Oc, Om, σd, st, s, h⟩ => by
  refine ⟨Oc, Om, σd, st, s, ?_⟩
  replace h : wX (Rep (bdOf X)) (bdOf X) W tb Oc Om H σd σ Q (fe σd st, st) := h
  cases q : fe σd st with
  | ok d => rw [q] at h; exact fun v H' e r => h v H' Om (s.same e) (.of_same e) r
  | exc c => rw [q] at h; exact fun C H' hc e => h C H' Om hc (s.same e) (.of_same e)
  | stuck => rw [q] at h; exact h
end
/-! ### an object's field gets something -/
section
variable {B : Bd} {W : WX} {tb : Store} {Oc Om : List Addr} {σd : Sd} {st : Store} {σ : L2.St} {H H' : Hp} {p : Addr} {c f : Str} {ks : List Str} {ds : List D}
theorem fz_in {a : Addr} {o : HO} (h : a ∈ Om) : fz (upd H a o) Oc Om = fz H Oc Om := by
  funext b
  unfold fz minus
  by_cases hb : b = a
  · subst hb; simp [h]
  · simp [upd_ne hb]
theorem SRs.fput (s : SRs B Oc Om σd (st ++ tb) σ H) (h : lk st p = some (.oi c ks ds)) (f : Str) : ∃ dx C vs, B.mg c = some (.ref C) ∧ ks.length = vs.length ∧ H p = some (.ins C dx (ks.zip vs)) ∧ p ∈ Om ∧
    ∀ H1 d y fd, Same H H1 → (∀ a ∈ fd, H a = none ∧ H1 a ≠ none) → fd.Nodup → OR B (fz (upd H1 p (.ins C dx (putF f y (ks.zip vs)))) Oc (fd ++ Om)) (upd H1 p (.ins C dx (putF f y (ks.zip vs)))) d y fd →
      SRs B Oc (fd ++ Om) σd (upS p (.oi c (putK f ks) (putV f d ks ds)) st ++ tb) σ (upd H1 p (.ins C dx (putF f y (ks.zip vs)))) := by
  have hlk := lk_append (tb := tb) h
  have al := s.1
  obtain ⟨fp, h1, h2, h3, h4⟩ := s.entry hlk
  unfold OR at h1
  obtain ⟨p', dx, C, vs, fq, e1, k2, k3, k4, k5, k6, k7⟩ := h1
  cases e1
  subst k6
  have pm : p ∈ Om := (h2 p (by simp)).1
  refine ⟨dx, C, vs, k2, k3, k4, pm, fun H1 d y fd e hd nd r => ?_⟩
  rw [List.nodup_cons] at h3
  obtain ⟨n1, n2⟩ := h3
  rw [List.nodup_cons] at n2
  obtain ⟨n3, n4⟩ := n2
  have pdx : p ≠ dx := fun z => n1 (by simp [z])
  have pfq : p ∉ fq := fun z => n1 (by simp [z])
  have kp : ∀ b, b ≠ p → ∀ o, H b = some o → upd H1 p (.ins C dx (putF f y (ks.zip vs))) b = some o := fun b hb o q => by rw [upd_ne hb]; exact e b o q
  have hdn : ∀ a ∈ fd, ∀ b, H b ≠ none → a ≠ b := fun a ha b hb z => hb (z ▸ (hd a ha).1)
  have mono : Same (fz H Oc Om) (fz (upd H1 p (.ins C dx (putF f y (ks.zip vs)))) Oc (fd ++ Om)) := fun a o ha => by
    obtain ⟨a1, a2⟩ := minus_some.mp ha
    rw [List.mem_append, not_or] at a1
    refine minus_some.mpr ⟨?_, kp a (fun z => a1.2 (z ▸ pm)) o a2⟩
    simp only [List.mem_append, not_or]
    exact ⟨a1.1, ⟨fun z => (by rw [(hd a z).1] at a2; cases a2), a1.2⟩⟩
  have fqal : ∀ a ∈ fq, H a ≠ none := fun a ha => al a (by simp [(h2 a (by simp [ha])).1])
  obtain ⟨fq', q1, q2, q3⟩ := ORL.put (f := f) (d := d) (y := y) (fd := fd) k3 k7 mono n4 nd r (fun a ha o z => kp a (fun w => pfq (w ▸ ha)) o z) (fun a ha z => fqal a z (hd a ha).1)
  have hpn : H p ≠ none := by rw [k4]; exact fun z => nomatch z
  have hdxn : H dx ≠ none := by rw [k5]; exact fun z => nomatch z
  rw [← upS_append h]
  refine h4 (.oi c (putK f ks) (putV f d ks ds)) (p :: dx :: fq') _ (fd ++ Om) ?_ (fun b hb o q => kp b (fun z => hb (by simp [z])) o q) (fun a ha => ?_) (fun a ha => by simp [ha]) ?_ (fun a ha => ?_) (fun a ha => ?_) (fun a ha => ?_)
  · unfold OR
    exact ⟨p, dx, C, putV f y ks vs, fq', rfl, k2, len_putK f k3, by rw [upd_same, zip_putF f y k3], kp dx (Ne.symm pdx) _ k5, rfl, q1⟩
  · rcases List.mem_append.mp ha with z | z
    · exact .inr (hd a z).1
    · exact .inl z
  · have m1 : p ∉ fq' := fun z => by
      rcases q3 p z with w | w
      · exact pfq w
      · exact hdn p w p hpn rfl
    have m2 : dx ∉ fq' := fun z => by
      rcases q3 dx z with w | w
      · exact n3 w
      · exact hdn dx w dx hdxn rfl
    simp [pdx, m1, m2, q2]
  · rcases List.mem_cons.mp ha with z | z
    · exact .inl (by simp [z])
    · rcases List.mem_cons.mp z with z | z
      · exact .inl (by simp [z])
      · rcases q3 a z with w | w
        · exact .inl (by simp [w])
        · exact .inr (hd a w).1
  · rcases List.mem_cons.mp ha with z | z
    · simp [z, pm]
    · rcases List.mem_cons.mp z with z | z
      · simp [z, (h2 dx (by simp)).1]
      · rcases q3 a z with w | w
        · simp [(h2 a (by simp [w])).1]
        · simp [w]
  · by_cases z : a = p
    · rw [z, upd_same]; exact fun q => nomatch q
    · rw [upd_ne z]
      simp only [List.mem_append] at ha
      rcases ha with w | w | w
      · exact Same.ne e (al a (by simp [w]))
      · exact (hd a w).2
      · exact Same.ne e (al a (by simp [w]))
/-- a list that a field owns changes -/
theorem SRs.fmod {xs : List D} (s : SRs B Oc Om σd (st ++ tb) σ H) (h : lk st p = some (.oi c ks ds)) (hf : fget f ks ds = some (.ol xs)) : ∃ dx C vs q ws, B.mg c = some (.ref C) ∧ H p = some (.ins C dx (ks.zip vs)) ∧ (ks.zip vs).lookup f = some (.ref q) ∧ H q = some (.lst ws) ∧ RepL B (fz H Oc Om) xs ws ∧ q ∈ Om ∧
    ∀ xs' ws', RepL B (fz H Oc Om) xs' ws' → SRs B Oc Om σd (upS p (.oi c ks (putV f (.ol xs') ks ds)) st ++ tb) σ (upd H q (.lst ws')) := by
  have hlk := lk_append (tb := tb) h
  have al := s.1
  obtain ⟨fp, h1, h2, h3, h4⟩ := s.entry hlk
  unfold OR at h1
  obtain ⟨p', dx, C, vs, fq, e1, k2, k3, k4, k5, k6, k7⟩ := h1
  cases e1
  subst k6
  rw [List.nodup_cons] at h3
  obtain ⟨n1, n2⟩ := h3
  rw [List.nodup_cons] at n2
  obtain ⟨n3, n4⟩ := n2
  obtain ⟨v, g, g1, g2, g3, g4⟩ := ORL.mod k7 n4 hf
  unfold OR at g2
  obtain ⟨q, ws, rfl, g5, rfl, g6⟩ := g2
  have qfq : q ∈ fq := g3 q (by simp)
  have qm : q ∈ Om := (h2 q (by simp [qfq])).1
  refine ⟨dx, C, vs, q, ws, k2, k4, g1, g5, g6, qm, fun xs' ws' r => ?_⟩
  have qp : p ≠ q := fun z => n1 (by simp [z, qfq])
  have qd : dx ≠ q := fun z => n3 (z ▸ qfq)
  rw [← upS_append h]
  have em : fz (upd H q (.lst ws')) Oc Om = fz H Oc Om := fz_in qm
  refine h4 _ (p :: dx :: fq) _ Om ?_ (fun b hb o z => by rw [upd_ne (fun w : b = q => hb (by simp [w, qfq]))]; exact z) (fun a ha => .inl ha) (fun a ha => ha) (by simp [n3, n4]; simpa using n1) (fun a ha => .inl ha) (fun a ha => (h2 a ha).1) (fun a ha => ?_)
  · unfold OR
    refine ⟨p, dx, C, vs, fq, rfl, k2, k3, by rw [upd_ne qp]; exact k4, by rw [upd_ne qd]; exact k5, rfl, g4 _ _ (.ol xs') (by rw [em]; exact Same.refl _) ?_ fun a ha hn o z => by rw [upd_ne (by simpa using hn)]; exact z⟩
    unfold OR
    exact ⟨q, ws', rfl, upd_same, rfl, by rw [em]; exact r⟩
  · by_cases z : a = q
    · rw [z, upd_same]; exact fun w => nomatch w
    · rw [upd_ne z]; exact al a ha
/-- a list of the store changes -/
theorem SRs.lmod {xs : List D} (s : SRs B Oc Om σd (st ++ tb) σ H) (h : lk st p = some (.ol xs)) : ∃ ws, H p = some (.lst ws) ∧ RepL B (fz H Oc Om) xs ws ∧ p ∈ Om ∧
    ∀ xs' ws', RepL B (fz H Oc Om) xs' ws' → SRs B Oc Om σd (upS p (.ol xs') st ++ tb) σ (upd H p (.lst ws')) := by
  have hlk := lk_append (tb := tb) h
  have al := s.1
  obtain ⟨fp, h1, h2, h3, h4⟩ := s.entry hlk
  unfold OR at h1
  obtain ⟨q, ws, e1, g5, rfl, g6⟩ := h1
  cases e1
  have qm : p ∈ Om := (h2 p (by simp)).1
  refine ⟨ws, g5, g6, qm, fun xs' ws' r => ?_⟩
  rw [← upS_append h]
  have em : fz (upd H p (.lst ws')) Oc Om = fz H Oc Om := fz_in qm
  refine h4 _ [p] _ Om ?_ (fun b hb o z => by rw [upd_ne (by simpa using hb)]; exact z) (fun a ha => .inl ha) (fun a ha => ha) (by simp) (fun a ha => .inl ha) (fun a ha => (h2 a ha).1) (fun a ha => ?_)
  · unfold OR
    exact ⟨p, ws', rfl, upd_same, rfl, by rw [em]; exact r⟩
  · by_cases z : a = p
    · rw [z, upd_same]; exact fun w => nomatch w
    · rw [upd_ne z]; exact al a ha
end
end FF
set_option maxHeartbeats 4000000
/-! statements that change objects -/
namespace FF
open PySem PySem.Spec PyProof.Rows L2
section
variable {X : Cx} {W : WX} {tb : Store} {e o : Expr} {fo : RE} {fv : ME} {pos pos' : Pos} {c f : Str}
theorem tR_seqO {B : Bd} {W : WX} {Oc Om : List Addr} {σd : Sd} {st : Store} {σ : L2.St} {H : Hp} {f : RE} {k : D → MO} {Dn : L2.Ends} {Q1 : VK} (s : SRs B Oc Om σd (st ++ tb) σ H) (h : (bindO (.fin (f σd st, st)) σd fun d _ => k d).all (wO B W tb Oc Om H Dn))
    (hk : ∀ d v H1, Same H H1 → Rep B (fz H1 Oc Om) d v → SRs B Oc Om σd (st ++ tb) σ H1 → (k d).all (wO B W tb Oc Om H1 Dn) → Q1 v H1) : tR B W tb f σ H Q1 := by
  refine ⟨Oc, Om, σd, st, s, ?_⟩
  cases q : f σd st with
  | ok d =>
    rw [q] at h
    exact fun v H1 e r => hk d v H1 e r (s.same e) (T.all_imp (fun _ z => wO.ext (.of_same e) z) h)
  | exc c =>
    rw [q] at h
    exact fun C H' hc e => h C σ Om H' hc (s.same e) (.of_same e)
  | stuck => rw [q] at h; exact h
/-- o.f = e, e stands still -/
def setOut (c f : Str) (d od : D) (σ : Sd) (st : Store) : MO := match obAt c st od with
  | some (p, ks, ds) => if ks.length < 1000 then .fin (.next σ, upS p (.oi c (putK f ks) (putV f d ks ds)) st) else .fin (.stuck, st)
  | none => .fin (.stuck, st)
def mFldS (c f : Str) (fo : RE) (fv : ME) : MS := fun σ st => bindO (fv σ st) σ fun d st1 => bindO (.fin (fo σ st1, st1)) σ fun od _ => setOut c f d od σ st1
theorem ext_in {Om : List Addr} {H : Hp} {p : Addr} {o : HO} (hp : p ∈ Om) : Ext Om H Om (upd H p o) := ext_w hp
theorem sm_fldS {fs : List Str} (F : ClsF X.K X.mg c fs) (hf : f ∈ fs := by decide) (ho : RD tb X W o fo) (hv : EM tb X W e fv) (hs : swapsWith e (some (.Attribute o f pos')) pos.line X.env = pure false := by rfl) :
    SM tb X W (.Assign [.Attribute o f pos'] e pos) (mFldS c f fo fv) :=
  ps_imp (ps_fld ho hv hs) fun Dn σ H ⟨Oc, Om, σd, st, s, h⟩ => tX_seqO s h fun d st1 v H1 Om1 s1 x1 r1 h1 => tR_seqO s1 h1 fun od u H2 e2 r2 s2 h2 => by
    unfold setOut at h2
    cases q : obAt c st1 od with
    | none => rw [q] at h2; exact h2.elim
    | some z =>
      obtain ⟨p, ks, ds⟩ := z
      rw [q] at h2
      obtain ⟨rfl, q2⟩ := obAt_some q
      replace h2 : (if ks.length < 1000 then T.fin (Out.next σd, upS p (.oi c (putK f ks) (putV f d ks ds)) st1) else .fin (.stuck, st1)).all (wO (bdOf X) W tb Oc Om1 H2 Dn) := h2
      by_cases hl : ks.length < 1000
      case neg => rw [if_neg hl] at h2; exact h2.elim
      rw [if_pos hl] at h2
      obtain ⟨dx, C, vs, k1, k2, k3, k4, k5⟩ := s2.fput q2 f
      obtain ⟨C', m1, m2, m3⟩ := F.at_
      rw [show X.mg c = _ from k1] at m1
      cases m1
      cases (show u = .ref p from r2)
      have r3 : Rep (bdOf X) (fz H2 Oc Om1) d v := r1.mono (same_minus e2)
      have hll : (ks.zip vs).length < 1000 := by rw [List.length_zip]; omega
      refine ⟨p, C, dx, _, rfl, k3, m2, m3 f hf, hll, ?_⟩
      have s3 := k5 H2 d v [] (Same.refl _) (fun a ha => by cases ha) List.nodup_nil ((OR_frz r3.notOwn).mpr ⟨rfl, by rw [List.nil_append, fz_in k4]; exact r3⟩)
      exact h2 σ _ _ s3 (by simpa using ext_in k4)
/-- o.f = a new list, which is the object's own -/
def mFldO (c f : Str) (fo : RE) (fl : Sd → R (List D)) : MS := fun σ st => bindO (.fin (fl σ, st)) σ fun xs st1 => bindO (.fin (fo σ st1, st1)) σ fun od _ => setOut c f (.ol xs) od σ st1
theorem sm_fldO {fs : List Str} {fl : Sd → R (List D)} (F : ClsF X.K X.mg c fs) (hf : f ∈ fs := by decide) (ho : RD tb X W o fo) (hv : NDx X W e fl) (hs : swapsWith e (some (.Attribute o f pos')) pos.line X.env = pure false := by rfl) :
    SM tb X W (.Assign [.Attribute o f pos'] e pos) (mFldO c f fo fl) :=
  ps_imp (ps_fld ho hv hs) fun Dn σ H ⟨Oc, Om, σd, st, s, h⟩ => by
    obtain ⟨Oa, Ob, sa, e1, e2, _⟩ := s.up
    refine ⟨Ob ++ Oc, Oa, σd, sa, ?_⟩
    unfold mFldO at h
    cases q : fl σd with
    | stuck => rw [q] at h; exact h.elim
    | exc c =>
      rw [q] at h
      exact fun C H' hc e => h C σ Om H' hc (s.same e) (.of_same e)
    | ok xs =>
      rw [q] at h
      intro q1 ws H1 e hq hw r
      replace h : (bindO (.fin (fo σd st, st)) σd fun od _ => setOut c f (.ol xs) od σd st).all (wO (bdOf X) W tb Oc Om H Dn) := h
      refine ⟨Oc, Om, σd, st, s.same e, ?_⟩
      cases qf : fo σd st with
      | stuck => rw [qf] at h; exact h.elim
      | exc c =>
        rw [qf] at h
        exact fun C H' hc e' => h C σ Om H' hc ((s.same e).same e') (.of_same (e.trans e'))
      | ok od =>
      rw [qf] at h
      intro u H2 e2' r2
      replace h : (setOut c f (.ol xs) od σd st).all (wO (bdOf X) W tb Oc Om H Dn) := h
      unfold setOut at h
      cases qq : obAt c st od with
      | none => rw [qq] at h; exact h.elim
      | some z =>
        obtain ⟨p, ks, ds⟩ := z
        rw [qq] at h
        obtain ⟨rfl, q2⟩ := obAt_some qq
        replace h : (if ks.length < 1000 then T.fin (Out.next σd, upS p (.oi c (putK f ks) (putV f (.ol xs) ks ds)) st) else .fin (.stuck, st)).all (wO (bdOf X) W tb Oc Om H Dn) := h
        by_cases hl : ks.length < 1000
        case neg => rw [if_neg hl] at h; exact h.elim
        rw [if_pos hl] at h
        obtain ⟨dx, C, vs, k1, k2, k3, k4, k5⟩ := s.fput q2 f
        obtain ⟨C', m1, m2, m3⟩ := F.at_
        rw [show X.mg c = _ from k1] at m1
        cases m1
        cases (show u = .ref p from r2)
        have e12 : Same H H2 := e.trans e2'
        have hll : (ks.zip vs).length < 1000 := by rw [List.length_zip]; omega
        have hw2 := e2' _ _ hw
        have pq : p ≠ q1 := fun z => by rw [z, hq] at k3; cases k3
        refine ⟨p, C, dx, _, rfl, e12 _ _ k3, m2, m3 f hf, hll, ?_⟩
        have s3 := k5 H2 (.ol xs) (.ref q1) [q1] e12 (fun a ha => by rw [List.mem_singleton.mp ha]; exact ⟨hq, by rw [hw2]; exact fun z => nomatch z⟩) (by simp) (by
          unfold OR
          refine ⟨q1, ws, rfl, by rw [upd_ne (Ne.symm pq)]; exact hw2, rfl, ?_⟩
          have em : fz (upd H2 p (.ins C dx (putF f (.ref q1) (ks.zip vs)))) Oc ([q1] ++ Om) = fz H2 Oc ([q1] ++ Om) := fz_in (by simp [k4])
          rw [em]
          have e3 : minus H1 (q1 :: (Ob ++ Oc ++ Oa)) = fz H1 Oc ([q1] ++ Om) := by
            have := e2 H1 e
            funext a
            have := congrFun this a
            unfold fz minus at this ⊢
            by_cases z : a = q1
            · subst z; simp
            · simp only [List.mem_append, List.mem_cons, z, false_or, List.mem_singleton] at this ⊢
              simpa using this
          rw [e3] at r
          exact r.mono (same_minus e2'))
        refine h σ _ _ s3 ⟨fun b o hb z => by rw [upd_ne (fun w : b = p => hb (w ▸ k4))]; exact e12 _ _ z, fun a ha => ?_⟩
        rcases List.mem_append.mp ha with z | z
        · exact .inr (by rw [List.mem_singleton.mp z]; exact hq)
        · exact .inl z
def ownList (c f : Str) (st : Store) (od : D) : Option (Addr × List Str × List D × List D) := match obAt c st od with
  | some (p, ks, ds) => (match fget f ks ds with
    | some (.ol xs) => some (p, ks, ds, xs)
    | _ => none)
  | none => none
/-- o.f.append(e) -/
def fappAt (c f : Str) (σ : Sd) (st : Store) (fe : RE) : Option (Addr × List Str × List D × List D) → MO
  | some (p, ks, ds, xs) => bindO (.fin (fe σ st, st)) σ fun d _ => if xs.length < sizeLine then .fin (.next σ, upS p (.oi c ks (putV f (.ol (xs ++ [d])) ks ds)) st) else .fin (.stuck, st)
  | none => .fin (.stuck, st)
def mFApp (c f : Str) (i : Nat) (fe : RE) : MS := fun σ st => match eVr i σ with
  | .ok od => fappAt c f σ st fe (ownList c f st od)
  | _ => .fin (.stuck, st)
theorem ownList_some {st : Store} {od : D} {p : Addr} {ks : List Str} {ds xs : List D} (h : ownList c f st od = some (p, ks, ds, xs)) : od = .ob p ∧ lk st p = some (.oi c ks ds) ∧ fget f ks ds = some (.ol xs) := by
  unfold ownList at h
  cases q : obAt c st od with
  | none => rw [q] at h; cases h
  | some z =>
    obtain ⟨p', ks', ds'⟩ := z
    rw [q] at h
    simp only at h
    split at h
    · rename_i xs' e
      cases h
      obtain ⟨a, b⟩ := obAt_some q
      exact ⟨a, b, e⟩
    · cases h
theorem SRs.var {B : Bd} {Oc Om : List Addr} {σd : Sd} {st : Store} {σ : L2.St} {H : Hp} {i : Nat} {d : D} (s : SRs B Oc Om σd st σ H) (h : σd[i]? = some (some d)) (hd : d.isOwn = false) : ∃ v, σ[i]? = some (some v) ∧ Rep B (fz H Oc Om) d v := by
  have hl := s.len
  have hi : i < σd.length := (List.getElem?_eq_some_iff.mp h).1
  have h' : (σd ++ stD st)[i]? = some (some d) := by rw [List.getElem?_append_left hi]; exact h
  obtain ⟨v, e, r⟩ := SR.get s h' hd
  rw [List.getElem?_append_left (by omega)] at e
  exact ⟨v, e, r⟩
theorem eVr_ok {i : Nat} {σ : Sd} {d : D} (h : eVr i σ = .ok d) : σ[i]? = some (some d) := by
  unfold eVr at h
  split at h
  · cases h; assumption
  · cases h
theorem eVr_noexc {i : Nat} {σ : Sd} {c : Str} : eVr i σ ≠ .exc c := by
  unfold eVr
  split <;> exact fun z => nomatch z
theorem sm_fapp {fs : List Str} {i : Nat} {fe : RE} {x : Str} {xpos apos cpos fpos : Pos} (F : ClsF X.K X.mg c fs) (hf : f ∈ fs := by decide) (ho : PE X (.Name x xpos) (tVar i)) (he : RD tb X W e fe)
    (hb : attributeBase (.Name x xpos) f X.env (eval (.Name x xpos) X.env) = eval (.Name x xpos) X.env := by rfl)
    (hbase : attributeBase (.Attribute (.Name x xpos) f fpos) "append" X.env (eval (.Attribute (.Name x xpos) f fpos) X.env) = eval (.Attribute (.Name x xpos) f fpos) X.env := by rfl)
    (hfew : ((backTo cpos (starEach (e :: []) X.env)).all (fun x => !x.1) && (backToKw cpos (keywordEach [] X.env)).all (fun x => x.1.isSome)
      && decide ((e :: ([] : List Expr)).length + ([] : List Keyword).length + (if ([] : List Keyword).isEmpty then 0 else 1) < 30)) = true := by rfl)
    (hline : (apos.endLine == cpos.line) = true := by rfl) (hs : starEach (e :: []) X.env = (false, eval e X.env) :: starEach [] X.env := by rfl) (hplain : (backTo cpos (starEach [] X.env)).any (·.1) = false := by rfl)
    (hsw : swapsWith (.Call (.Attribute (.Attribute (.Name x xpos) f fpos) "append" apos) [e] [] cpos) none pos.line X.env = pure false := by rfl) :
    SM tb X W (.Expr (.Call (.Attribute (.Attribute (.Name x xpos) f fpos) "append" apos) [e] [] cpos) pos) (mFApp c f i fe) :=
  ps_imp (ps_expr (pe_bm PySem.F.plainAttrs_list PySem.F.slot_list_append PySem.F.type_list_append mt_append (pe_fld ho hb) (pa_cons he pa_nil hs) hbase hfew hline hs hplain) hsw) fun Dn σ H ⟨Oc, Om, σd, st, s, h⟩ => by
    unfold mFApp at h
    cases q : eVr i σd with
    | stuck => rw [q] at h; exact h.elim
    | exc c => exact absurd q eVr_noexc
    | ok od =>
      rw [q] at h
      replace h : (fappAt c f σd st fe (ownList c f st od)).all (wO (bdOf X) W tb Oc Om H Dn) := h
      cases qo : ownList c f st od with
      | none => rw [qo] at h; exact h.elim
      | some z =>
        obtain ⟨p, ks, ds, xs⟩ := z
        rw [qo] at h
        obtain ⟨rfl, q2, q3⟩ := ownList_some qo
        obtain ⟨v, e1, r1⟩ := s.var (eVr_ok q) rfl
        cases (show v = .ref p from r1)
        obtain ⟨dx, C, vs, q', ws, k1, k2, k3, k4, k5, k6, k7⟩ := s.fmod q2 q3
        obtain ⟨C', m1, m2, m3⟩ := F.at_
        rw [show X.mg c = _ from k1] at m1
        cases m1
        refine ⟨.ref p, e1, p, C, dx, _, .ref q', rfl, k2, m2, m3 f hf, k3, .inl ⟨rfl, _, SqL.of k4⟩, ?_⟩
        refine tR_seqO s h fun d v H1 e2 r2 s1 h1 => ?_
        obtain ⟨dx1, C1, vs1, q1, ws1, j1, j2, j3, j4, j5, j6, j7⟩ := s1.fmod q2 q3
        have : q1 = q' := by
          have e3 := j2.symm.trans (e2 _ _ k2)
          injection e3 with e3
          injection e3 with _ _ e3
          rw [e3, k3] at j3
          injection j3 with j3
          injection j3 with j3
          exact j3.symm
        subst this
        split at h1
        · rename_i hl
          exact ⟨q1, ws1, v, rfl, rfl, j4, by rw [j5.length]; exact hl, h1 σ Om _ (j7 _ _ (j5.append (.cons r2 .nil))) (ext_w j6)⟩
        · exact h1.elim
/-- o.f.pop() -/
def fpopAt (c f : Str) (st : Store) : Option (Addr × List Str × List D × List D) → MR D
  | some (p, ks, ds, xs) => (match xs.getLast? with
    | some d => .fin (.ok d, upS p (.oi c ks (putV f (.ol xs.dropLast) ks ds)) st)
    | none => .fin (.stuck, st))
  | none => .fin (.stuck, st)
def mFPop (c f : Str) (i : Nat) : ME := fun σ st => match eVr i σ with
  | .ok od => fpopAt c f st (ownList c f st od)
  | _ => .fin (.stuck, st)
theorem RepL.dropLast {B : Bd} {G : Hp} {ds : List D} {vs : List V} (h : RepL B G ds vs) : RepL B G ds.dropLast vs.dropLast := by
  rw [List.dropLast_eq_take, List.dropLast_eq_take, h.length]
  exact h.take _
theorem em_fpop {fs : List Str} {i : Nat} {x : Str} {xpos apos cpos fpos : Pos} (F : ClsF X.K X.mg c fs) (hf : f ∈ fs := by decide) (ho : PE X (.Name x xpos) (tVar i))
    (hb : attributeBase (.Name x xpos) f X.env (eval (.Name x xpos) X.env) = eval (.Name x xpos) X.env := by rfl)
    (hbase : attributeBase (.Attribute (.Name x xpos) f fpos) "pop" X.env (eval (.Attribute (.Name x xpos) f fpos) X.env) = eval (.Attribute (.Name x xpos) f fpos) X.env := by rfl)
    (hline : (apos.endLine == cpos.line) = true := by rfl) :
    EM tb X W (.Call (.Attribute (.Attribute (.Name x xpos) f fpos) "pop" apos) [] [] cpos) (mFPop c f i) :=
  pe_imp (pe_bm0 PySem.F.plainAttrs_list PySem.F.slot_list_pop PySem.F.type_list_pop mt_pop (pe_fld ho hb) hbase hline) fun σ H Q ⟨Oc, Om, σd, st, s, h⟩ => by
    unfold mFPop at h
    cases q : eVr i σd with
    | stuck => rw [q] at h; exact h.elim
    | exc c => exact absurd q eVr_noexc
    | ok od =>
      rw [q] at h
      replace h : (fpopAt c f st (ownList c f st od)).all (wX (Rep (bdOf X)) (bdOf X) W tb Oc Om H σd σ Q) := h
      cases qo : ownList c f st od with
      | none => rw [qo] at h; exact h.elim
      | some z =>
        obtain ⟨p, ks, ds, xs⟩ := z
        rw [qo] at h
        obtain ⟨rfl, q2, q3⟩ := ownList_some qo
        obtain ⟨v, e1, r1⟩ := s.var (eVr_ok q) rfl
        cases (show v = .ref p from r1)
        obtain ⟨dx, C, vs, q', ws, k1, k2, k3, k4, k5, k6, k7⟩ := s.fmod q2 q3
        obtain ⟨C', m1, m2, m3⟩ := F.at_
        rw [show X.mg c = _ from k1] at m1
        cases m1
        refine ⟨.ref p, e1, p, C, dx, _, .ref q', rfl, k2, m2, m3 f hf, k3, .inl ⟨rfl, _, SqL.of k4⟩, ?_⟩
        unfold fpopAt at h
        simp only at h
        split at h
        · rename_i d hd
          rw [List.getLast?_eq_getElem?] at hd
          obtain ⟨w, w1, w2⟩ := k5.at hd
          refine ⟨q', ws, w, rfl, rfl, k4, by rw [k5.length]; exact w1, ?_⟩
          exact h w _ Om (k7 _ _ k5.dropLast) (ext_w k6) (by rw [fz_in k6]; exact w2)
        · exact h.elim
/-! ### lists that the store holds -/
/-- x = [..], from here on the store's -/
def newLAt (i : Nat) (σ : Sd) (st : Store) (ds : List D) : MO := .new fun p => if usedO st p = true then .no else .fin (if i < σ.length then .next (σ.set i (some (.ob p))) else .stuck, (p, .ol ds) :: st)
def mNewL (i : Nat) (fl : Sd → R (List D)) : MS := fun σ st => bindO (.fin (fl σ, st)) σ fun ds _ => newLAt i σ st ds
theorem sm_newL {fl : Sd → R (List D)} {i : Nat} {x : Str} {xpos : Pos} (hN : X.N.Nodup) (hi : X.N[i]? = some x) (hx : Loc X.env.scope x) (he : NDx X W e fl) (hs : swapsWith e (some (.Name x xpos)) pos.line X.env = pure false := by rfl)
    (hf : X.fn x = true ∨ X.env.scope.names.lookup x = some .local := by first | exact .inl rfl | exact .inr rfl | assumption) : SM tb X W (.Assign [.Name x xpos] e pos) (mNewL i fl) :=
  ps_imp (ps_set hN hi hx he hs hf) fun Dn σ H ⟨Oc, Om, σd, st, s, h⟩ => by
    obtain ⟨Oa, Ob, sa, e1, e2, _⟩ := s.up
    refine ⟨Ob ++ Oc, Oa, σd, sa, ?_⟩
    unfold mNewL at h
    cases q : fl σd with
    | stuck => rw [q] at h; exact h.elim
    | exc c =>
      rw [q] at h
      exact fun C H' hc e => h C σ Om H' hc (s.same e) (.of_same e)
    | ok xs =>
      rw [q] at h
      intro p ws H1 e hq hw r
      have h2 : (if usedO st p = true then T.no else .fin (if i < σd.length then Out.next (σd.set i (some (.ob p))) else .stuck, (p, .ol xs) :: st)).all (wO (bdOf X) W tb Oc Om H Dn) := h p
      rw [usedO_no s hq] at h2
      replace h2 : wO (bdOf X) W tb Oc Om H Dn ((if i < σd.length then Out.next (σd.set i (some (.ob p))) else .stuck), (p, .ol xs) :: st) := h2
      by_cases hl : i < σd.length
      case neg => rw [if_neg hl] at h2; exact h2.elim
      rw [if_pos hl] at h2
      have e3 : minus H1 (p :: (Ob ++ Oc ++ Oa)) = fz H1 Oc ([p] ++ Om) := by
        have := e2 H1 e
        funext a
        have := congrFun this a
        unfold fz minus at this ⊢
        by_cases z : a = p
        · subst z; simp
        · simp only [List.mem_append, List.mem_cons, z, false_or, List.mem_singleton] at this ⊢
          simpa using this
      rw [e3] at r
      have s2 : SRs (bdOf X) Oc ([p] ++ Om) σd ((p, .ol xs) :: (st ++ tb)) σ H1 := s.add e (fun a ha => by rw [List.mem_singleton.mp ha]; exact hq) (fun a ha => by rw [List.mem_singleton.mp ha, hw]; exact fun z => nomatch z) (by simp) (by
        unfold OR
        exact ⟨p, ws, rfl, hw, rfl, r⟩)
      exact h2 _ _ H1 (s2.setF hl (d := .ob p) (v := .ref p) rfl) ⟨fun b o _ z => e b o z, fun a ha => by
        rcases List.mem_append.mp ha with z | z
        · exact .inr (by rw [List.mem_singleton.mp z]; exact hq)
        · exact .inl z⟩
def lstAt (st : Store) (d : D) : Option (Addr × List D) := match d with
  | .ob p => (match lk st p with
    | some (.ol xs) => some (p, xs)
    | _ => none)
  | _ => none
theorem lstAt_some {st : Store} {d : D} {p : Addr} {xs : List D} (h : lstAt st d = some (p, xs)) : d = .ob p ∧ lk st p = some (.ol xs) := by
  unfold lstAt at h
  split at h
  · split at h
    · rename_i e
      cases h
      exact ⟨rfl, e⟩
    · cases h
  · cases h
/-- x[e], x a list of the store -/
def ixLAt (xs : List D) : D → R D
  | .int n => ofO (L2.atI xs n)
  | _ => .stuck
def rIxL (i : Nat) (fi : RE) : RE := fun σ st => match eVr i σ with
  | .ok d => (match lstAt st d with
    | some (_, xs) => fi σ st >>= ixLAt xs
    | none => .stuck)
  | _ => .stuck
theorem rd_ixL {i : Nat} {a b : Expr} {fi : RE} (ho : PE X a (tVar i)) (hb : RD tb X W b fi) (hs : PlainIx b) : RD tb X W (.Subscript a b pos) (rIxL i fi) := pe_imp (pe_ix ix_list ho hb hs) fun σ H Q ⟨Oc, Om, σd, st, s, h⟩ => by
  unfold rIxL at h
  cases q : eVr i σd with
  | stuck => rw [q] at h; exact h.elim
  | exc c => exact absurd q eVr_noexc
  | ok od =>
    rw [q] at h
    simp only at h
    cases q2 : lstAt st od with
    | none => rw [q2] at h; exact h.elim
    | some z =>
      obtain ⟨p, xs⟩ := z
      rw [q2] at h
      obtain ⟨rfl, q3⟩ := lstAt_some q2
      obtain ⟨v, e1, r1⟩ := s.var (eVr_ok q) rfl
      cases (show v = .ref p from r1)
      obtain ⟨ws, k1, k2, k3, k4⟩ := s.lmod q3
      refine ⟨.ref p, e1, tR_seq s h fun k u H1 e2 r s1 h1 => ?_⟩
      cases k with
      | int n =>
        cases r
        replace h1 : (ofO (L2.atI xs n)).post _ _ := h1
        cases q : L2.atI xs n with
        | none => rw [q] at h1; exact h1.elim
        | some d =>
          rw [q] at h1
          obtain ⟨w, e3, r2⟩ := k2.atI q
          exact ⟨p, ws, n, w, rfl, rfl, SqL.of (e2 _ _ k1), e3, h1 w H1 e2 (r2.mono (same_minus e2))⟩
      | _ => exact h1.elim
/-- x[e] = v, x a list of the store -/
def setLAt (σ : Sd) (st : Store) (p : Addr) (xs : List D) (d : D) : D → MO
  | .int n => (match ixN xs.length n with
    | some j => .fin (.next σ, upS p (.ol (xs.set j d)) st)
    | none => .fin (.stuck, st))
  | _ => .fin (.stuck, st)
def setLIf (σ : Sd) (st : Store) (fi : RE) (d : D) : Option (Addr × List D) → MO
  | some (p, xs) => bindO (.fin (fi σ st, st)) σ fun k _ => setLAt σ st p xs d k
  | none => .fin (.stuck, st)
def mSetIxL (i : Nat) (fi : RE) (fv : ME) : MS := fun σ st => bindO (fv σ st) σ fun d st1 => match eVr i σ with
  | .ok od => setLIf σ st1 fi d (lstAt st1 od)
  | _ => .fin (.stuck, st1)
theorem sm_setIxL {i : Nat} {a b vx : Expr} {fi : RE} {tpos : Pos} (ho : PE X a (tVar i)) (he : RD tb X W b fi) (hv : EM tb X W vx fv) (hsub : PG X (.Subscript a b tpos) (gSub (tVar i) (tR (bdOf X) W tb fi) rSetL))
    (hs : swapsWithSole [.Subscript a b tpos] vx pos.line X.env = pure false := by rfl) (hw : swappedStores [.Subscript a b tpos] vx X.env = pure none := by rfl) : SM tb X W (.Assign [.Subscript a b tpos] vx pos) (mSetIxL i fi fv) :=
  ps_imp (ps_asg hv hsub hs hw) fun Dn σ H ⟨Oc, Om, σd, st, s, h⟩ => tX_seqO s h fun d st1 v H1 Om1 s1 x1 r1 h1 => by
    cases q : eVr i σd with
    | stuck => rw [q] at h1; exact h1.elim
    | exc c => exact absurd q eVr_noexc
    | ok od =>
      rw [q] at h1
      replace h1 : (setLIf σd st1 fi d (lstAt st1 od)).all (wO (bdOf X) W tb Oc Om1 H1 Dn) := h1
      cases q2 : lstAt st1 od with
      | none => rw [q2] at h1; exact h1.elim
      | some z =>
        obtain ⟨p, xs⟩ := z
        rw [q2] at h1
        obtain ⟨rfl, q3⟩ := lstAt_some q2
        obtain ⟨v', e1, r1'⟩ := s1.var (eVr_ok q) rfl
        cases (show v' = .ref p from r1')
        refine ⟨.ref p, e1, ?_⟩
        refine tR_seqO s1 h1 fun k u H2 e2 r2 s2 h2 => ?_
        obtain ⟨ws, k1, k2, k3, k4⟩ := s2.lmod q3
        cases k with
        | int n =>
          cases r2
          unfold setLAt at h2
          simp only at h2
          split at h2
          · rename_i j hj
            exact ⟨p, ws, n, j, rfl, rfl, k1, by rw [k2.length]; exact hj, h2 σ Om1 _ (k4 _ _ (k2.set (r1.mono (same_minus e2)))) (ext_w k3)⟩
          · exact h2.elim
        | _ => exact h2.elim
end
end FF
set_option maxHeartbeats 4000000
/-! the law's end, where objects are; defs, methods, makings by their bodies -/
namespace FF
open PySem PySem.Spec PyProof.Rows L2
section
variable {P : Program} {w : World} {K : PySem.W.Frag} {mg : Str → Option Value} {base : Heap} {tb : Store} {x x' qual c : Str} {params : Arguments} {body : List Stmt} {scope : Scope} {f C : Addr} {fd : FuncData} {N ps : List Str} {k : Nat}
theorem callsM_of {g : MS} (F : FunD K x' qual params body scope [] [] f fd) (S : FnScope N ps scope) (hm : mg x = some (.ref f)) (hb : Binds K fd ps [])
    (hbody : ∀ (cdv : Value) (A : Around) (outer : List Env) (s : Shared) (H : Hp) (E : XK), CtxD (cxOf (L2.CX P w) P w K mg base N qual scope f cdv A outer s H E) (WE0 E) k →
      SMs tb (cxOf (L2.CX P w) P w K mg base N qual scope f cdv A outer s H E) (WE0 E) body g) : CallsM tb P w K mg base x ps.length (k + 1) (runM ps.length N.length g) :=
  ⟨⟨f, fd, ps, rfl, fnOkM F S hbody, hm, F.kp, hb⟩, fun ds st z => by unfold runM; rw [if_neg z]⟩
theorem methM_of {g : MS} (F : FunD K x' qual params body scope [] [] f fd) (S : FnScope N ps scope) (hC : mg c = some (.ref C)) (hcl : Cls K C) (hme : Meth K C x f) (hb : Binds K fd ps [])
    (hbody : ∀ (cdv : Value) (A : Around) (outer : List Env) (s : Shared) (H : Hp) (E : XK), CtxD (cxOf (L2.CX P w) P w K mg base N qual scope f cdv A outer s H E) (WE0 E) k →
      SMs tb (cxOf (L2.CX P w) P w K mg base N qual scope f cdv A outer s H E) (WE0 E) body g) : MethM tb P w K mg base c x ps.length (k + 1) (runM ps.length N.length g) :=
  ⟨⟨C, f, fd, ps, hC, hcl, hme, rfl, fnOkM F S hbody, hb⟩, fun ds st z => by unfold runM; rw [if_neg z]⟩
theorem makeM_of {g : MS} (F : FunD K x' qual params body scope [] [] f fd) (S : FnScope N ps scope) (hC : mg c = some (.ref C)) (M : Mk K C f) (hb : Binds K fd ps [])
    (hbody : ∀ (cdv : Value) (A : Around) (outer : List Env) (s : Shared) (H : Hp) (E : XK), CtxD (cxOf (L2.CX P w) P w K mg base N qual scope f cdv A outer s H E) (WE0 E) k →
      SMs tb (cxOf (L2.CX P w) P w K mg base N qual scope f cdv A outer s H E) (WE0 E) body g) : MakeM tb P w K mg base c ps.length (k + 1) (runM ps.length N.length g) :=
  ⟨⟨C, f, fd, ps, hC, M, rfl, fnOkM F S hbody, hb⟩, fun ds st z => by unfold runM; rw [if_neg z]⟩
theorem methP_of {g : DS} (F : FunD K x' qual params body scope [] [] f fd) (S : FnScope N ps scope) (hC : mg c = some (.ref C)) (hcl : Cls K C) (hme : Meth K C x f) (hb : Binds K fd ps [])
    (hbody : ∀ (cdv : Value) (A : Around) (outer : List Env) (s : Shared) (H : Hp) (E : XK), CtxD (cxOf (L2.CX P w) P w K mg base N qual scope f cdv A outer s H E) (WE0 E) k →
      SDs (cxOf (L2.CX P w) P w K mg base N qual scope f cdv A outer s H E) (WE0 E) body g) : MethP P w K mg base c x ps.length (k + 1) (runD ps.length N.length g) :=
  ⟨⟨C, f, fd, ps, hC, hcl, hme, rfl, fnOk_of F S hbody, hb⟩, fun ds z => by unfold runD; rw [if_neg z]⟩
/-- no call at all is asked -/
theorem methP_none (F : FunD K x' qual params body scope [] [] f fd) (hC : mg c = some (.ref C)) (hcl : Cls K C) (hme : Meth K C x f) (hb : Binds K fd ps []) : MethP P w K mg base c x ps.length k (fun _ => .stuck) := by
  have no : ∀ vs H Q E, ¬ spD ⟨K, mg, P, w⟩ ps.length (fun _ => .stuck) vs H Q E := fun vs H Q E ⟨_, _, _, _, _, z⟩ => z.elim
  exact ⟨⟨C, f, fd, ps, hC, hcl, hme, rfl, ⟨fun vs H Q E h => absurd h (no vs H Q E), fun A outer s H args us vs Q E _ _ _ _ h => absurd h (no vs H Q E)⟩, hb⟩, fun _ _ => rfl⟩
theorem methM_none (F : FunD K x' qual params body scope [] [] f fd) (hC : mg c = some (.ref C)) (hcl : Cls K C) (hme : Meth K C x f) (hb : Binds K fd ps []) : MethM tb P w K mg base c x ps.length k (fun _ st => .fin (.stuck, st)) := by
  have no : ∀ vs H Q E, ¬ spM ⟨K, mg, P, w⟩ tb ps.length (fun _ st => .fin (.stuck, st)) vs H Q E := fun vs H Q E ⟨_, _, _, _, _, _, _, z⟩ => z.elim
  exact ⟨⟨C, f, fd, ps, hC, hcl, hme, rfl, ⟨fun vs H Q E h => absurd h (no vs H Q E), fun A outer s H args us vs Q E _ _ _ _ h => absurd h (no vs H Q E)⟩, hb⟩, fun _ _ _ => rfl⟩
theorem CallsM.mono {n j : Nat} {m : List D → Store → MR D} (h : CallsM tb P w K mg base x n j m) (hk : j ≤ k) : CallsM tb P w K mg base x n k m := by
  obtain ⟨f, fd, ps, h1, F, h2⟩ := h.at_
  exact ⟨⟨f, fd, ps, h1, F.mono hk, h2⟩, h.ar⟩
end
/-! ### facts of classes -/
section
variable {fa : List He.Fa} {fn : List He.DefD} {as : List (PySem.W.Frag → Bool)} {K : PySem.W.Frag} {mg : Str → Option Value}
theorem Facts.cls (T : Facts fa fn as K mg) (i : Nat) {x : Str} (h : fa[i]? = some (.cls x) := by rfl) : Cls K (He.ga K x) := by
  obtain ⟨hp, X, G, c⟩ := T.ex
  exact He.cls_ok (c.d.fact i h)
theorem Facts.noat (T : Facts fa fn as K mg) (i : Nat) {x f : Str} (h : fa[i]? = some (.noat x f) := by rfl) : NoAttr K (He.ga K x) f := by
  obtain ⟨hp, X, G, c⟩ := T.ex
  exact He.noat_ok (c.d.fact i h)
theorem Facts.meth (T : Facts fa fn as K mg) (i : Nat) {x m : Str} (h : fa[i]? = some (.meth x m) := by rfl) : Meth K (He.ga K x) m (He.ma K (He.ga K x) m) := by
  obtain ⟨hp, X, G, c⟩ := T.ex
  exact He.meth_ok (c.d.fact i h)
theorem Facts.mkr (T : Facts fa fn as K mg) (i : Nat) {x : Str} (h : fa[i]? = some (.mkr x) := by rfl) : Mk K (He.ga K x) (He.ma K (He.ga K x) "__init__") := by
  obtain ⟨hp, X, G, c⟩ := T.ex
  exact He.mkr_ok (c.d.fact i h)
end
/-- a class's body -/
def clsBody (s : Stmt) : List Stmt := match s with
  | .ClassDef _ _ _ b _ _ _ _ _ _ _ => b
  | _ => []
/-! ### the law's own promise -/
def EndsM (P : Program) (w : World) (K : PySem.W.Frag) (mg : Str → Option Value) (f : Addr) (k : Nat) (x : Str) (m : List D → Store → MR D) : Prop :=
  ∃ fd : FuncData, (∀ (s : Shared) (u : Value), BindsTo s fd ⟨[u], []⟩ [(x, u)]) ∧ ∀ base : Heap, FnOk P w K mg base (L2.CX P w) k f fd [x] (spM ⟨K, mg, P, w⟩ [] 1 m)
theorem EndsM.at_ {l : PySem.W.OpenLaw} {w : World} {K : PySem.W.Frag} {mg : Str → Option Value} {f : Addr} {k n : Nat} {x : Str} {m : List D → Store → MR D} {h : Heap} (e : EndsM l.prog w K mg f k x m)
    (hp : ∀ ns : List Int, ns.length ≤ n → (∀ z ∈ ns, Builtin.Int.intBits z ≤ 1048576) → (m [.src ns] []).all fun r => r.1 = .ok (.bl true)) : LamX.LawAtS l w K (L2.CX l.prog w) k n x mg f h := by
  obtain ⟨fd, hb, F⟩ := e
  refine ⟨fd, [], _, fun p hp => (by cases hp), fun p hp => (by cases hp), fun p hp => (by cases hp), hb, fun H a ns h1 h2 _ hs => ?_, fun base _ _ _ => F base⟩
  refine ⟨[], [], [.src ns], [], rfl, ⟨fun a ha => (by cases ha), [], ⟨rfl, rfl⟩, List.nodup_nil, fun a ha => (by cases ha)⟩, .cons ?_ .nil, T.all_imp (fun r hr => ?_) (hp ns h1 h2)⟩
  · unfold Rep
    exact ⟨a, rfl, by
      have em : fz H [] [] = H := by
        funext b
        unfold fz minus
        simp
      rw [em]; exact hs⟩
  · obtain ⟨r, st⟩ := r
    cases (show r = .ok (.bl true) from hr)
    exact fun v H' Om' _ _ r => r
end FF
set_option maxHeartbeats 4000000
/-! calls within an except clause -/
namespace FF
open PySem PySem.Spec PyProof.Rows L2
/-! ### a def that is called while an exception is handled -/
/-- the context of such a def's body -/
abbrev cxQ (CX : CXT) (P : Program) (w : World) (K : PySem.W.Frag) (mg : Str → Option Value) (base : Heap) (N : List Str) (qual : Str) (scope : Scope) (f : Addr) (cd : Value) (A : Around) (outer : List Env) (s : Shared) (H : Hp) (E : XK) : Cx :=
  { cxOf CX P w K mg base N qual scope f cd A outer s H E with calm := false }
theorem inv_startQ {CX : CXT} {P : Program} {w : World} {K : PySem.W.Frag} {mg : Str → Option Value} {base : Heap} {N ps : List Str} {qual : Str} {scope : Scope} {f : Addr} {cd : Value} {A : Around} {outer : List Env} {s s1 : Shared} {H : Hp} {E : XK} {us : List Value} {vs : List V}
    (S : FnScope N ps scope) (e0 : Env0 P w K mg base A outer s H) (hl : vs.length = ps.length) (r : Vals vs us)
    (x : InCallC s s.heap.objs.size (bindL (envOfC qual scope s.heap.objs.size f cd).kindOf (ps.zip us) fun _ => none) (cellsFrom (s.heap.objs.size + 1) scope.names []) (bindC (envOfC qual scope s.heap.objs.size f cd).kindOf (ps.zip us) fun _ => none) s1) :
    Inv (cxQ CX P w K mg base N qual scope f cd A outer s H E) [] (L2.start N vs) H s1 := by
  have hpl : ps.length ≤ N.length := by have := congrArg List.length S.pre; rw [List.length_take] at this; omega
  obtain ⟨h1, tk, rfl, hk⟩ := x.done
  have noA : ∀ b : Addr, b ∉ (cxQ CX P w K mg base N qual scope f cd A outer s H E).ex := fun b z => absurd (show b ∈ ([] : List Addr) from z) (by simp)
  refine ⟨⟨e0.mod, S.kind, rfl, rfl, Nat.le_refl _, fun y z c h1 h2 => ?_, fun y hy => ?_, fun y c _ h => ?_, (fun z => Bool.noConfusion (show false = true from z)), Around.frames_deeper e0.frames, .inr ⟨rfl, rfl⟩, fun b z => absurd z (noA b), e0.bs, e0.bsz, fun b _ _ => noA b, fun b z => absurd z (noA b), e0.funs, e0.frf⟩,
    rfl, e0.bare, Un.kept hk, ⟨_, x.toInCall.ns, fun i y v h1 h2 h3 => ?_⟩, fun y c h => ⟨_, x.cell y c h⟩, e0.hok.fresh (Nat.le_refl _), fun y c h => ?_, fun q hq => ?_, e0.hok.kept hk, ?_⟩
  · exact name_of_addr x.apart (PySem.mem_of_lookup h1) (PySem.mem_of_lookup h2)
  · have hy : scope.names.lookup y = some .cell ∨ scope.names.lookup y = some .free := hy
    rcases hy with hy | hy
    · exact cell_has hy
    · exact absurd rfl (S.nofree _ (PySem.mem_of_lookup hy))
  · exact Nat.le_of_lt (x.above y c (PySem.mem_of_lookup h))
  · have hi : i < vs.length := by
      unfold L2.start at h2
      by_cases hi : i < vs.length
      · exact hi
      · rw [List.getElem?_append_right (by simpa using hi)] at h2
        rw [List.getElem?_replicate] at h2
        split at h2 <;> cases h2
    have ha : vs[i]? = some v := by
      unfold L2.start at h2
      rw [List.getElem?_append_left (by simpa using hi), List.getElem?_map] at h2
      cases e : vs[i]? with
      | none => rw [e] at h2; cases h2
      | some a => rw [e] at h2; cases h2; rfl
    obtain ⟨u, hu, rv⟩ := r.get ha
    have hp : ps[i]? = some y := by
      rw [← S.pre, List.getElem?_take_of_lt (by omega)]; exact h1
    have ndP : ps.Nodup := by rw [← S.pre]; exact S.nd.sublist (List.take_sublist _ _)
    refine ⟨u, rv, ?_⟩
    rcases S.par y (List.mem_of_getElem? hp) with k | k
    · exact .inl ⟨k, bindL_get ndP hp hu k⟩
    · obtain ⟨c, e⟩ := cell_has (n := s.heap.objs.size + 1) k
      refine .inr ⟨.inl k, c, e, ?_⟩
      have q := x.cell y c e
      rw [bindC_get ndP hp hu (by show scope.names.lookup y ≠ _; rw [k]; decide)] at q
      exact q
  · exact e0.hok.fresh (Nat.le_of_lt (x.above y c (PySem.mem_of_lookup h)))
  · exact absurd (show q ∈ ([] : List (Addr × Obj)) from hq) (by simp)
  · unfold L2.start
    show _ = N.length
    rw [List.length_append, List.length_map, List.length_replicate]
    omega
/-- what a def promises there; it raises nothing -/
structure FnQ (P : Program) (w : World) (K : PySem.W.Frag) (mg : Str → Option Value) (base : Heap) (k : Nat) (f : Addr) (fd : FuncData) (ps : List Str) (sp : Sp) : Prop where
  len : ∀ vs H Q E, sp vs H Q E → vs.length = ps.length
  run : ∀ (A : Around) (outer : List Env) (s : Shared) (H : Hp) (args : Args) (us : List Value) (vs : List V) (Q : VK), L2H.RoomH k A → Env0 P w K mg base A outer s H → BindsTo s fd args (ps.zip us) → Vals vs us → sp vs H Q (fun _ _ _ => False) →
    codeAny (model P w) A (.call (.ref f) args) (CR C8.CX0 outer P w H s Q fun _ _ _ => False) s
structure CtxQ (X : Cx) (k : Nat) : Prop where
  room : L2H.RoomH k X.A
theorem rmQ {X : Cx} {k : Nat} (r : L2H.RoomH k X.A) : Rm X := by
  have := r.un
  show X.A.units + 200 < cLine
  omega
theorem fnQ_of {P : Program} {w : World} {K : PySem.W.Frag} {mg : Str → Option Value} {base : Heap} {x' qual : Str} {params : Arguments} {body : List Stmt} {scope : Scope} {f : Addr} {fd : FuncData} {N ps : List Str} {k : Nat} {g : DS}
    (F : FunD K x' qual params body scope [] [] f fd) (S : FnScope N ps scope)
    (hbody : ∀ (cdv : Value) (A : Around) (outer : List Env) (s : Shared) (H : Hp), CtxQ (cxQ C8.CX0 P w K mg base N qual scope f cdv A outer s H fun _ _ _ => False) k →
      SDs (cxQ C8.CX0 P w K mg base N qual scope f cdv A outer s H fun _ _ _ => False) W0 body g) : FnQ P w K mg base (k + 1) f fd ps (spD ⟨K, mg, P, w⟩ ps.length (runD ps.length N.length g)) := by
  obtain ⟨oc, od, dV, kV, doc, pm, an, cdv, ct, osl, rfl, lk, hcd, _, _⟩ := F.ex
  refine ⟨fun vs H Q E ⟨O, ds, h1, _, h2, _⟩ => by rw [h2.length, h1], fun A outer s H args us vs Q hr e0 hb r hsp => ?_⟩
  obtain ⟨O, ds, h1, h0, h2, h3⟩ := hsp
  have hl : vs.length = ps.length := by rw [h2.length, h1]
  have KX : K.In s.heap := e0.mod.kin.keeps fun b o e => (e0.bs b o e).1
  have lim : s.heap.NoLimit := e0.mod.nolimit.keeps fun b o e => (e0.bs b o e).1
  have hkind : ∀ y ∈ ps.zip us, scope.names.lookup y.1 = some .local ∨ (scope.names.lookup y.1 = some .cell ∧ ((cellsFrom (s.heap.objs.size + 1) scope.names []).lookup y.1).isSome = true) := fun ⟨n, v⟩ hy => by
    rcases S.par n (List.of_mem_zip hy).1 with q | q
    · exact .inl q
    · exact .inr ⟨q, PySem.W.cellsFrom_some _ _ _ (.inl q)⟩
  refine codeAny_call_function hr.depth (KX _ _ lk) rfl S.co S.gen rfl (PySem.W.codeRec_of KX hcd) (hb _ _ _ _ ?_)
  refine wpAny_newFunctionEnv_cells S.kind hkind fun env he s1 x => ?_
  subst he
  refine ⟨lim.keeps x.toInCall.keep, codeAny_func ?_⟩
  have I : Inv (cxQ C8.CX0 P w K mg base N qual scope f cdv A outer s H fun _ _ _ => False) [] (L2.start N vs) H s1 := inv_startQ S e0 hl r x
  unfold runD at h3
  rw [if_pos h1] at h3
  have hl2 : vs.length = ds.length := h2.length
  have hq : tS (bdOf (cxQ C8.CX0 P w K mg base N qual scope f cdv A outer s H fun _ _ _ => False)) W0 g { nx := fun _ H' => Q .non H', rt := Q } (L2.start N vs) H := by
    refine ⟨O, [], startD N.length ds, ⟨by simpa using h0, [], ?_, List.nodup_nil, by simp⟩, ?_⟩
    · unfold startD L2.start
      rw [List.append_nil, hl2]
      exact slots_start _ h2
    · have sm : ∀ {Om' : List Addr} {H' : Hp}, Ext [] H Om' H' → Same H H' := fun x b o q => x.keep b o (by simp) q
      cases q : g (startD N.length ds) with
      | next σ1 => rw [q] at h3; exact fun σ' Om' H' s' x => h3 .non H' (sm x) rfl
      | ret d σ1 => rw [q] at h3; exact fun v σ' Om' H' s' x r => h3 v H' (sm x) (r.mono (sub_minus fun a ha => by simp [ha]))
      | brk σ1 => rw [q] at h3; exact h3.elim
      | cont σ1 => rw [q] at h3; exact h3.elim
      | exc c σ1 => rw [q] at h3; exact fun C σ' Om' H' hc s' x => (h3 C H' hc (sm x)).elim
      | stuck => rw [q] at h3; exact h3.elim
  refine wpAny_mono ((hbody cdv A outer s H ⟨hr.deeper _⟩).run [] s1 (L2.start N vs) H _ I hq) (fun fl s' hs => ?_) fun e s' hs => hs
  have fin : ∀ {σ' : L2.St} {H' : Hp} {v : V} {u : Value}, Inv (cxQ C8.CX0 P w K mg base N qual scope f cdv A outer s H fun _ _ _ => False) [] σ' H' s' → L2.RelV v u → Q v H' → CE outer P w H s Q u s' :=
    fun {σ' H' v u} J rv q => ⟨v, H', J.os, J.bare, J.base, J.hok, rv, q⟩
  cases fl with
  | ret u =>
    obtain ⟨v, σ', H', J, rv, q⟩ := hs
    exact fin J rv q
  | next =>
    obtain ⟨σ', H', J, q⟩ := hs
    exact fin (v := V.non) (u := Value.none) J rfl q
  | brk =>
    obtain ⟨_, _, _, q⟩ := hs
    exact False.elim q
  | cont =>
    obtain ⟨_, _, _, q⟩ := hs
    exact False.elim q
structure CallsQ (P : Program) (w : World) (K : PySem.W.Frag) (mg : Str → Option Value) (base : Heap) (x : Str) (n k : Nat) (m : List D → R D) : Prop where
  at_ : ∃ (f : Addr) (fd : FuncData) (ps : List Str), ps.length = n ∧ FnQ P w K mg base k f fd ps (spD ⟨K, mg, P, w⟩ n m) ∧ mg x = some (.ref f) ∧ PySem.W.keepIn K (.ref f) = true ∧ Binds K fd ps []
theorem callsQ_of {P : Program} {w : World} {K : PySem.W.Frag} {mg : Str → Option Value} {base : Heap} {x x' qual : Str} {params : Arguments} {body : List Stmt} {scope : Scope} {f : Addr} {fd : FuncData} {N ps : List Str} {k : Nat} {g : DS}
    (F : FunD K x' qual params body scope [] [] f fd) (S : FnScope N ps scope) (hm : mg x = some (.ref f)) (hb : Binds K fd ps [])
    (hbody : ∀ (cdv : Value) (A : Around) (outer : List Env) (s : Shared) (H : Hp), CtxQ (cxQ C8.CX0 P w K mg base N qual scope f cdv A outer s H fun _ _ _ => False) k →
      SDs (cxQ C8.CX0 P w K mg base N qual scope f cdv A outer s H fun _ _ _ => False) W0 body g) : CallsQ P w K mg base x ps.length (k + 1) (runD ps.length N.length g) :=
  ⟨⟨f, fd, ps, rfl, fnQ_of F S hbody, hm, F.kp, hb⟩⟩
/-! ### within the clause: the exception's object is tracked for the call alone -/
theorem Env0.track {P : Program} {w : World} {K : PySem.W.Frag} {mg : Str → Option Value} {base : Heap} {A : Around} {outer : List Env} {s : Shared} {H : Hp} {p : Addr} {o : HO} (e : Env0 P w K mg base A outer s H) (hp : H p = none) (hb : base.get? p = none) (hf : p ∉ frs outer)
    (new : ObjOk P w (upd H p o) s.heap p o) : Env0 P w K mg base A outer s (upd H p o) :=
  ⟨e.frames, e.mod, fun b u q => ⟨(e.bs b u q).1, by rw [upd_ne (fun z => by rw [z, hb] at q; cases q)]; exact (e.bs b u q).2⟩, e.bsz, e.funs, fun b h => by
      have hne : b ≠ p := fun z => hf (by rw [← z]; exact h)
      rw [upd_ne hne]; exact e.frf b h, fun c v q => by
    by_cases hc : c = p
    · subst hc
      rw [upd_same] at q
      cases q
      exact new
    · rw [upd_ne hc] at q
      exact (e.hok c v q).stay (fun _ _ _ z => z) (fun d z => by rw [upd_ne (ne_of_none z hp)]; exact z) fun d xs z => by rw [upd_ne (ne_of_none z hp)]; exact z, e.bare⟩
def dropH (H : Hp) (p : Addr) : Hp := fun b => if b = p then none else H b
theorem dropH_ne {H : Hp} {p b : Addr} (h : b ≠ p) : dropH H p b = H b := if_neg h
theorem dropH_eq {H : Hp} {p : Addr} : dropH H p p = none := if_pos rfl
theorem CE.untrack {P : Program} {w : World} {outer : List Env} {s s' : Shared} {H : Hp} {p : Addr} {oe : Obj} {uo : HO} {Q : VK} {u : Value} (hp : H p = none) (hg : s.heap.get? p = some oe) (nt : ∀ xs, uo ≠ .tup xs) (no : ∀ a, uo ≠ .own a)
    (h : CE outer P w (upd H p (.frz oe uo)) s Q u s') : CE outer P w H s (fun v H' => ∃ H1, H' = dropH H1 p ∧ H1 p = some (.frz oe uo) ∧ Q v H1) u s' := by
  obtain ⟨v, H', os, bare, un, hok, r, q⟩ := h
  have fz := un.frzs p oe uo upd_same
  have gp : s'.heap.get? p = some oe := (hok p _ fz).1
  refine ⟨v, dropH H' p, os, bare, ⟨fun b o e n hb hx => ?_, fun b o e n hb hx => ?_, fun b o e n hx => ?_, un.there, fun b xs e => ?_, fun b o u e => ?_, fun b qs e => ?_⟩, fun c v' e => ?_, r, H', rfl, fz, q⟩
  · by_cases z : b = p
    · subst z
      rw [hg] at e; cases e
      exact gp
    · exact un.keep b o e (by rw [upd_ne z]; exact n) hb hx
  · by_cases z : b = p
    · subst z
      rw [hg] at e; cases e
      exact ⟨oe.slots, gp⟩
    · exact un.slot b o e (by rw [upd_ne z]; exact n) hb hx
  · by_cases z : b = p
    · subst z; exact dropH_eq
    · rw [dropH_ne z]; exact un.free b o e (by rw [upd_ne z]; exact n) hx
  · have z : b ≠ p := fun z => by rw [z, hp] at e; cases e
    rw [dropH_ne z]
    exact un.tups b xs (by rw [upd_ne z]; exact e)
  · have z : b ≠ p := fun z => by rw [z, hp] at e; cases e
    rw [dropH_ne z]
    exact un.frzs b o u (by rw [upd_ne z]; exact e)
  · have z : b ≠ p := fun z => by rw [z, hp] at e; cases e
    rw [dropH_ne z]
    exact un.tbls b qs (by rw [upd_ne z]; exact e)
  · have z : c ≠ p := fun z => by rw [z, dropH_eq] at e; cases e
    rw [dropH_ne z] at e
    refine (hok c v' e).stay (fun _ _ _ z => z) (fun d y => ?_) fun d xs y => ?_
    · have w : d ≠ p := fun w => by rw [w, fz] at y; cases y
      rw [dropH_ne w]; exact y
    · have w : d ≠ p := fun w => by rw [w, fz] at y; cases y
      rw [dropH_ne w]; exact y
end FF
set_option maxHeartbeats 4000000
/-! try: return x() / except E as e: return F(e) -/
namespace FF
open PySem PySem.Spec PyProof.Rows L2
section
variable {X : Cx}
/-! ### the clause that gives back what is told of the exception -/
def wBack (K : PySem.W.Frag) (c : Value) (nN i : Nat) (tE : Addr → Value → Option Addr → TE) (Wout : WX) (Dn : L2.Ends) : WX := fun cls d σ H =>
  ∃ b, PySem.W.exmOne K cls c = some b ∧ (b = true → σ.length = nN → ∀ a, H a = none → tE a cls d (σ.set i (some (.ref a))) H Dn.rt) ∧ (b = false → Wout cls d σ H)
theorem ps_tryBack {x n : Str} {c : Value} {i : Nat} {body : List Stmt} {e : Expr} {np hp rp tp : Pos} {tb : WX → TS} {tE : Addr → Value → Option Addr → TE} {Wout : WX} (hs : X.stack = X.env :: X.outer) (hf : X.env.frame = some X.env.locals) (hex : X.ex = []) (hN : X.N.Nodup) (hi : X.N[i]? = some n) (hln : X.env.kindOf n = some .local)
    (hc : Names X x c) (tk : Takes X Wout)
    (hb : ∀ (W : WX) (pn : List (Addr × Obj)) (xe : Value → Shared → Prop), Takes (X.tr pn xe) W → PassesOwn (model X.prog X.w) X.A X.env xe → PSs (X.tr pn xe) body (tb W))
    (hsu : ∀ (a : Addr) (oe : Obj) (cls : Value) (d : Option Addr) (pn : List (Addr × Obj)), Zc cls d oe → (∃ vs, oe.data = .fields vs) → X.s_0.heap.get? a = none → PE (X.suite a ((a, oe) :: pn)) e (tE a cls d)) :
    PS X (.Try body [.ExceptHandler (some (.Name x np)) (some n) [.Return (some e) rp] hp] [] [] tp) (fun Dn σ H => tb (wBack X.K c X.N.length i tE Wout Dn) Dn σ H) := by
  refine ⟨fun pins s σ H Dn I h => wpAny_Try_except ?_⟩
  have ok := I.ok
  have hfr : X.A.frames = some (X.env :: X.outer) := ok.frames.trans (by rw [hs])
  have own := hb (wBack X.K c X.N.length i tE Wout Dn) (X.pn ++ pins) (fun e1 t => wpAny (model X.prog X.w) X.A (noteFrame e1 X.env) (fun _ t2 => wpAny (model X.prog X.w) X.A (setFlight e1 none) (fun _ t3 =>
    wpAny (model X.prog X.w) X.A (handleBy e1 X.env [.ExceptHandler (some (.Name x np)) (some n) [.Return (some e) rp] hp]) (SP X pins Dn) X.xe t3) X.xe t2) X.xe t) ?takes PassesOwn.looking
  case takes =>
    intro u t xx
    obtain ⟨p, G, sI, pins', σ', H', cls, d, rfl, J', nb, up, sky, na, os, ag, b, hb1, hyes, hno⟩ := xx
    have J : Inv X pins σ' H' sI := J'.ofTry ok
    have sky2 : Sky G (X.env :: X.outer) p (Zc cls d) X.env.locals t.heap := by rw [hs] at sky; exact sky
    show wpAny (model X.prog X.w) X.A (noteFrame (.ref p) X.env) _ _ _
    refine Sky.land Zc.steady hfr hf sky2 fun h3 fl up3 => ?_
    have J3 : Inv X pins σ' H' { t with heap := h3 } := J.landed nb fl.1 (up.trans up3) os ag
    obtain ⟨oe, vs, he, hz, hd⟩ := fl.there
    have nfr : p ∉ frs (X.env :: X.outer) := fun hm => by
      obtain ⟨_, o2, e2, hnf⟩ := fl.2.2.1.mem hm
      rw [he] at e2; cases e2
      exact hnf _ hd
    have nL : p ≠ X.env.locals := fun z => nfr (List.mem_filterMap.mpr ⟨X.env, List.mem_cons_self, by rw [hf, z]⟩)
    have nF : p ∉ X.fs := fun hm => by
      obtain ⟨en, h1, h2⟩ := List.mem_filterMap.mp hm
      exact nfr (List.mem_filterMap.mpr ⟨en, List.mem_cons_of_mem _ h1, h2⟩)
    have gI : sI.heap.get? p = none := by
      cases z : sI.heap.get? p with
      | none => rfl
      | some o2 =>
        have w2 := nb p o2 z (by rw [hs]; exact nfr)
        rw [fl.2.1] at w2; cases w2
    have g0 : X.s_0.heap.get? p = none := by
      cases z : X.s_0.heap.get? p with
      | none => rfl
      | some o2 =>
        obtain ⟨o3, w2⟩ := J.base.there p o2 z (by rw [hex]; simp)
        rw [gI] at w2; cases w2
    have S3 := J3.suite he hd na nL nF
    refine wpAny_handleBy_cons (codeAny_handlers_test ?_) (by intro q; cases q)
    have LT : PySem.W.Looks (model X.prog X.w) h3 (typeOf (.ref p)) cls := fun A Q E s2 k q => wpAny_typeOf_ref (k _ _ he) (by rw [hz.1]; exact q)
    have LM := PySem.W.exm_one (M := model X.prog X.w) (J3.kIn) LT hb1
    have test : ∀ {Q : Value → Shared → Prop} {E : Value → Shared → Prop}, Q c { t with heap := h3 } → wpAny (model X.prog X.w) (X.A.mark (some (.ref p))) (eval (.Name x np) X.env) Q E { t with heap := h3 } := fun {Q E} q => by
      obtain ⟨hg, hdbg, hm | ⟨hm, hv, hnn⟩⟩ := hc
      · exact ld_glob (X := X.suite p ((p, oe) :: (X.pn ++ pins))) S3 hg hm q hdbg
      · exact ld_blt (X := X.suite p ((p, oe) :: (X.pn ++ pins))) S3 hg hm hv q hnn hdbg
    refine test (LM.here ?_)
    cases b with
    | true =>
      refine codeAny_handlers_suite_as (HandSPX.lands_againZ fl fun h4 fl4 up4 => ?_)
      have J4 : Inv X pins σ' H' { t with heap := h4 } := J.landed nb fl4.1 ((up.trans up3).trans up4) os ag
      obtain ⟨oe4, vs4, he4, hz4, hd4⟩ := fl4.there
      have S4 := J4.suite he4 hd4 na nL nF
      refine store_ok (X := X.suite p ((p, oe4) :: (X.pn ++ pins))) (v := .ref p) S4 hN hi (.inl hln) rfl (fun s5 S5 => ?_) (.inr hln)
      refine wpAny_mono ((pss_one (ps_ret (pos := rp) (hsu p oe4 cls d (X.pn ++ pins) hz4 ⟨_, hd4⟩ g0))).run [] s5 _ H' { nx := fun _ _ => False, rt := Dn.rt } S5 (hyes rfl J.len p na)) (fun fl6 s6 hsp => ?_) (fun _ _ z => False.elim z)
      cases fl6 with
      | next =>
        obtain ⟨_, _, _, z⟩ := hsp
        exact z.elim
      | brk =>
        obtain ⟨_, _, _, z⟩ := hsp
        exact z.elim
      | cont =>
        obtain ⟨_, _, _, z⟩ := hsp
        exact z.elim
      | ret u =>
        obtain ⟨v6, σ6, H6, S6, r6, q6⟩ := hsp
        exact gone_ok (S6.unsuite ok) hN hi hln fun s7 J7 => ⟨_, _, _, J7, r6, q6⟩
    | false =>
      show wpAny _ X.A (handleBy (.ref p) X.env []) _ _ _
      refine wpAny_handleBy_nil ?_
      obtain ⟨k1, k2, k3, oe, vs, T, oT, ts', he, hz, hd, h1, hr⟩ := id fl
      unfold PySem.passOn
      refine wpAny_bind (wpAny_field he hd h1 ?_)
      rw [if_neg (show ¬ ((Value.ref T == Value.none) = true) from by simp)]
      have fin : wpAny (model X.prog X.w) X.A (setFlight (.ref p) X.env.frame) (fun _ s4 => wpAny (model X.prog X.w) X.A (throw (.ref p) : Sem Flow) (SP X pins Dn) X.xe s4) X.xe { t with heap := h3 } := by
        rw [hf]
        refine HandSPX.setFlight_upZ fl fun h4 hh4 up4 => wpAny_throw (tk _ _ ?_)
        exact ⟨p, G, sI, pins, σ', H', cls, d, rfl, J, nb, (up.trans up3).trans up4, .inr (.inr (by rw [hs]; exact hh4)), na, os, ag, hno rfl⟩
      first
        | exact wpAny_bind (wpAny_pure (wpAny_bind fin))
        | exact wpAny_bind fin
  refine wpAny_mono (own.run [] s σ H Dn (I.toTry _) h) (fun f s1 hsp => ?_) (fun e s1 he => he)
  cases f with
  | next =>
    obtain ⟨σ', H', J', q⟩ := hsp
    exact wpAny_execs_nil ⟨σ', H', J'.ofTry ok, q⟩
  | brk =>
    obtain ⟨σ', H', J', q⟩ := hsp
    exact ⟨σ', H', J'.ofTry ok, q⟩
  | cont =>
    obtain ⟨σ', H', J', q⟩ := hsp
    exact ⟨σ', H', J'.ofTry ok, q⟩
  | ret u =>
    obtain ⟨v, σ', H', J', r, q⟩ := hsp
    exact ⟨v, σ', H', J'.ofTry ok, r, q⟩
/-! ### F(e) within it -/
def tBack (B : Bd) (i : Nat) (m : List D → R D) (a : Addr) (cls : Value) (d : Option Addr) : TE := fun σ H Q =>
  ∃ C c w, cls = .ref C ∧ d = none ∧ B.mg c = some (.ref C) ∧ σ[i]? = some (some (V.ref a)) ∧ H a = none ∧ m [.exc c] = .ok (.str w) ∧ ∀ H', Same H H' → Q (.str w) H'
theorem pe_back {F n : Str} {a : Addr} {oe : Obj} {cls : Value} {d : Option Addr} {pn : List (Addr × Obj)} {i k k' : Nat} {m : List D → R D} {p vp cp : Pos} (h : CallsQ X.prog X.w X.K X.mg X.base F 1 k m) (hr : L2H.RoomH k' (X.A.mark (some (.ref a)))) (hk : k ≤ k')
    (hg : Gl X F) (hi : X.N[i]? = some n) (hv : Vis X.env.scope n) (hz : Zc cls d oe) (hd : ∃ vs, oe.data = .fields vs) (g0 : X.s_0.heap.get? a = none)
    (hdF : (F == ("__debug__" : Str)) = false := by decide) (hdn : (n == ("__debug__" : Str)) = false := by decide) (hcn : (n == ("__classdict__" : Str)) = false := by decide) :
    PE (X.suite a ((a, oe) :: pn)) (.Call (.Name F p) [.Name n vp] [] cp) (tBack (bdOf X) i m a cls d) := by
  obtain ⟨f, fd, ps, hn, FQ, hm, hkp, hb⟩ := h.at_
  refine ⟨fun pins s σ H Q I hq => ?_⟩
  obtain ⟨C, c, w, rfl, rfl, hC, hσ, hH, hmc, q⟩ := hq
  refine wpAny_Call_Name_kw (ld_glob I hg hm ?_ hdF)
  refine PySem.W.callWith_K (h₀ := X.base) I.ok.mod.kin hkp (thn ((pa_cons (pe_var (X := X.suite a ((a, oe) :: pn)) (pos := vp) (i := i) hi hv hdn hcn) pa_nil).run cp pins s σ H (fun vs H1 => vs = [V.ref a] ∧ H1 = H) I ⟨.ref a, hσ, rfl, rfl⟩) fun us s1 ⟨vs, H1, I1, r, e1, e2⟩ => ⟨I1.kIn, ?_⟩) (by rfl) (by rfl)
  subst e1 e2
  obtain ⟨g1, na, nL, nF, _⟩ := I1.pin (a, oe) (List.mem_append_left _ List.mem_cons_self)
  have hb0 : X.base.get? a = none := by
    cases z : X.base.get? a with
    | none => rfl
    | some o => rw [(I1.ok.bs a o z).1] at g0; cases g0
  have nfr : a ∉ frs X.stack := fun z => (List.mem_cons.mp (I1.stkSub _ z)).elim (fun y => nL y) fun y => nF y
  have hx : ObjOk X.prog X.w (upd H1 a (.frz oe (ExcAt a C))) s1.heap a (.frz oe (ExcAt a C)) := ⟨g1, ⟨oe, g1, hz, hd⟩, ⟨oe, g1⟩, fun h1 h2 ⟨o2, w1, w2⟩ k => ⟨o2, k _ w1, w2⟩⟩
  have e0 := Env0.track I1.env0 na hb0 nfr hx
  have un : FnQ X.prog X.w X.K X.mg X.base k f fd ps (spD (bdOf X) 1 m) := FQ
  have rc := un.run _ _ s1 _ ⟨us, []⟩ us [V.ref a] (fun v H' => v = .str w ∧ Same (upd H1 a (.frz oe (ExcAt a C))) H') (hr.mono hk) e0 (by simpa using hb s1 us I1.kIn (by rw [List.append_nil, ← r.length, hn]; rfl)) r ?_
  · refine wpAny_call (codeAny_mono rc fun res s2 hq => ?_)
    cases res with
    | error e => exact (show False from hq).elim
    | ok fl =>
      cases fl with
      | ret u =>
        have z := CE.untrack (P := X.prog) (w := X.w) na g1 (fun _ z => by cases z) (fun _ z => by cases z) hq
        obtain ⟨v, H2, os, bare, un2, hok, rv, H3, rfl, _, rfl, sm⟩ := z
        refine I1.after ⟨.str w, dropH H3 a, os, bare, un2, hok, rv, q _ fun b o hb => ?_⟩
        have hne : b ≠ a := fun z => by rw [z, na] at hb; cases hb
        rw [dropH_ne hne]
        exact sm b o (by rw [upd_ne hne]; exact hb)
      | next => exact False.elim hq
      | brk => exact False.elim hq
      | cont => exact False.elim hq
  · refine ⟨[], [.exc c], rfl, by simp, ?_, ?_⟩
    · refine ⟨V.ref a, [], rfl, ?_, rfl⟩
      unfold Rep
      exact ⟨a, C, rfl, hC, .inr ⟨oe, by unfold minus; simp [upd_same]⟩⟩
    · rw [hmc]
      intro v H' sm rv
      refine ⟨?_, sm⟩
      unfold Rep at rv
      exact rv
end
end FF
set_option maxHeartbeats 4000000
/-! x(lambda: e), told by x's own promise; the table of code objects is one owned object -/
namespace FF
open PySem PySem.Spec PyProof.Rows L2
/-! ### one table, one step -/
def LamStep (P : Addr) (q : Str) (H H1 : Hp) : Prop := H1 = H ∨ ∃ (ps : Array Value) (pos : Pos) (c : Addr), H P = some (.tbl ps) ∧ H c = none ∧ H1 = upd (upd H P (.tbl (ps ++ #[rawInt pos.line, rawInt pos.col, .ref c]))) c (LamX.CodeO c q)
section
variable {X : Cx} {pins : List (Addr × Obj)} {σ : L2.St} {H : Hp} {s : Shared}
theorem lam_make3 {c P : Addr} {params : Arguments} {body : Expr} {scope : Scope} {pos : Pos} {E Q : Value → Shared → Prop} (I : Inv X pins σ H s) (TB : LamX.TabB X.base X.mg c P) (hcode : X.env.code = .ref c) (hT : LamX.TabS H P (X.env.qual ++ "<lambda>"))
    (hdef : defaultsOf params X.env = ([], [])) (hfree : ∀ y ∈ scope.names, y.2 = .free → ∃ c, X.env.cells.lookup y.1 = some c)
    (h : ∀ (f c' : Addr) (pm ctv : Value) (H1 : Hp) (s' : Shared), Inv X pins σ H1 s' → LamStep P (X.env.qual ++ "<lambda>") H H1 →
      s'.heap.get? f = some (PySem.W.kla_obj "<lambda>" (X.env.qual ++ "<lambda>") params body scope (cloFrom X.env.cells scope.names []) pm c' ctv) → H1 f = none → f ∉ frs X.stack → H1 c' = some (LamX.CodeO c' (X.env.qual ++ "<lambda>")) → Q (.ref f) s') :
    wpAny (model X.prog X.w) X.A (eval (.Lambda params body scope pos) X.env) Q E s := by
  obtain ⟨ps, hP, ht, ha⟩ := hT
  have bP : s.heap.BuiltinsAt X.mg P := TB.bm.keeps I.bk
  have gP : s.heap.get? P = some { cls := .none, data := .fields ps } := I.hok P _ hP
  have far : ∀ f, s.heap.objs.size ≤ f → f ∉ frs X.stack := fun f hf z => (List.mem_cons.mp (I.stkSub _ z)).elim (fun e => Nat.lt_irrefl _ (Nat.lt_of_lt_of_le (show f < _ by rw [e]; exact I.lt) hf)) (I.nofs hf)
  refine PySem.W.kla_eval hdef ?_
  cases hc : codeAmong pos ps.toList with
  | some cv =>
    obtain ⟨c', rfl, hco⟩ := ha pos cv hc
    refine PySem.W.kla_makeFunctionHit (mg := X.mg) (c := c) (P := P) (ps := ps) (closure_ok hfree) I.ok.glob (I.mod.glob.keeps I.bk) hcode (TB.code.keeps I.bk) gP ht hc bP fun ctv h' tk hx hsz => ?_
    exact h _ c' _ ctv H _ (I.kept fun b o e => Heap.get?_push_of_some _ (hx b o e)) (.inl rfl) (Heap.get?_push_size _ rfl) (I.hok.fresh hsz) (far _ hsz) hco
  | none =>
    refine PySem.W.kla_makeFunction (mg := X.mg) (c := c) (P := P) (ps := ps) (closure_ok hfree) I.ok.glob (I.mod.glob.keeps I.bk) hcode (TB.code.keeps I.bk) gP ht hc TB.gP bP fun c' ctv h' tk hx hge hlt hrec htb => ?_
    obtain ⟨c2, oc, vs, t, e2, hoc, hd, hv⟩ := hrec
    cases e2
    have nC := I.hok.fresh hge
    have hsz : s.heap.objs.size ≤ h'.objs.size := Nat.le_trans hge (Nat.le_of_lt hlt)
    refine h _ c' _ ctv _ _ (LamX.inv_table (t' := tk) (more := #[rawInt pos.line, rawInt pos.col, .ref c']) I hP (fun b o hb e => Heap.get?_push_of_some _ (hx b o hb e)) (Heap.get?_push_of_some _ htb) hge ⟨oc, vs, t, Heap.get?_push_of_some _ hoc, hd, hv⟩)
      (.inr ⟨ps, pos, c', hP, nC, rfl⟩) (Heap.get?_push_size _ rfl) ?_ (far _ hsz) upd_same
    rw [upd_ne (Nat.ne_of_gt hlt), upd_ne (Nat.ne_of_gt (Nat.lt_of_lt_of_le (Heap.lt_size gP) hsz))]
    exact I.hok.fresh hsz
end
/-- an entry of the store is told anew -/
theorem SRs.redo {B : Bd} {Oc Om : List Addr} {σd : Sd} {st : Store} {σ : L2.St} {H : Hp} {p : Addr} {d : D} {j : Nat} (s : SRs B Oc Om σd st σ H) (hj : st[j]? = some (p, d)) :
    ∃ fp, OR B (fz H Oc Om) H d (.ref p) fp ∧ (∀ a ∈ fp, a ∈ Om) ∧ ∀ H', OR B (fz H' Oc Om) H' d (.ref p) fp → (∀ b, b ∉ fp → ∀ o, H b = some o → H' b = some o) → (∀ a ∈ fp, H' a ≠ none) → SRs B Oc Om σd st σ H' := by
  have hl := s.len
  obtain ⟨h1, fp, h2, h3, h4⟩ := s
  have hD : (σd ++ stD st)[σd.length + j]? = some (some d) := by
    rw [List.getElem?_append_right (by omega)]
    simp [stD, hj]
  have hV : (σ ++ stV st)[σd.length + j]? = some (some (V.ref p)) := by
    rw [hl, List.getElem?_append_right (by omega)]
    simp [stV, hj]
  obtain ⟨f1, f, f2, v, e1, e2, ⟨x, rfl, e3⟩, e4⟩ := h2.focus hD
  rw [hV] at e2
  cases e2
  subst e1
  have inM : ∀ a ∈ f, a ∈ Om := fun a ha => (h4 a (by simp [ha])).1
  refine ⟨f, e3, inM, fun H' r keep al => ?_⟩
  obtain ⟨n1, n2, n3⟩ := List.nodup_append.mp h3
  obtain ⟨n4, n5, n6⟩ := List.nodup_append.mp n2
  have nf : ∀ a ∈ f1 ++ f2, a ∉ f := fun a ha z => by
    rcases List.mem_append.mp ha with y | y
    · exact n3 a y a (by simp [z]) rfl
    · exact n6 a z a y rfl
  have mono : Same (fz H Oc Om) (fz H' Oc Om) := fun a o ha => by
    obtain ⟨a1, a2⟩ := minus_some.mp ha
    exact minus_some.mpr ⟨a1, keep a (fun z => a1 (List.mem_append_right _ (inM a z))) o a2⟩
  have q := e4 (fz H' Oc Om) H' (some d) (some (.ref p)) f mono (fun a ha o z => keep a (nf a ha) o z) ⟨_, rfl, r⟩
  have eD : (σd ++ stD st).set (σd.length + j) (some d) = σd ++ stD st := List.ext_getElem? fun i => by
    by_cases z : i = σd.length + j
    · subst z
      rw [List.getElem?_set_self (by exact (List.getElem?_eq_some_iff.mp hD).1), hD]
    · rw [List.getElem?_set_ne (Ne.symm z)]
  have eV : (σ ++ stV st).set (σd.length + j) (some (V.ref p)) = σ ++ stV st := List.ext_getElem? fun i => by
    by_cases z : i = σd.length + j
    · subst z
      rw [List.getElem?_set_self (by exact (List.getElem?_eq_some_iff.mp hV).1), hV]
    · rw [List.getElem?_set_ne (Ne.symm z)]
  rw [eD, eV] at q
  refine ⟨fun a ha => ?_, _, q, h3, h4⟩
  by_cases z : a ∈ f
  · exact al a z
  · have := h1 a ha
    cases y : H a with
    | none => exact absurd y this
    | some o => rw [keep a z o y]; exact fun w => nomatch w
theorem SRs.lamStep {B : Bd} {Oc Om : List Addr} {σd : Sd} {st : Store} {σ : L2.St} {H : Hp} {P : Addr} {q : Str} {j : Nat} (s : SRs B Oc Om σd st σ H) (hj : st[j]? = some (P, .tab q)) :
    LamX.TabS H P q ∧ ∀ H1, LamStep P q H H1 → SRs B Oc Om σd st σ H1 ∧ Ext Om H Om H1 := by
  have al := s.1
  obtain ⟨fp, r, inM, re⟩ := s.redo hj
  unfold OR at r
  obtain ⟨p, ps, e1, hP, rfl, ht, ha⟩ := r
  cases e1
  have hPM : P ∈ Om := inM P (by simp)
  refine ⟨⟨ps, hP, ht, fun pos cv hc => ?_⟩, fun H1 st1 => ?_⟩
  · obtain ⟨c, e, g⟩ := ha pos cv hc
    exact ⟨c, e, (minus_some.mp g).2⟩
  · rcases st1 with rfl | ⟨ps', pos, c, hP', nC, rfl⟩
    · exact ⟨s, .refl⟩
    · rw [hP] at hP'
      cases hP'
      have nPc : P ≠ c := ne_of_none hP nC
      have nM : c ∉ Oc ++ Om := fun z => al c z nC
      have keep : ∀ b, b ∉ [P] → ∀ o, H b = some o → upd (upd H P (.tbl (ps ++ #[rawInt pos.line, rawInt pos.col, .ref c]))) c (LamX.CodeO c q) b = some o := fun b hb o e => by
        rw [upd_ne (ne_of_none e nC), upd_ne (by simpa using hb)]
        exact e
      have atP : upd (upd H P (.tbl (ps ++ #[rawInt pos.line, rawInt pos.col, .ref c]))) c (LamX.CodeO c q) P = some (.tbl (ps ++ #[rawInt pos.line, rawInt pos.col, .ref c])) := by rw [upd_ne nPc, upd_same]
      refine ⟨re _ ?_ keep (fun a ha => by rw [List.mem_singleton.mp ha, atP]; exact fun z => nomatch z), ⟨fun b o hb e => keep b (fun z => hb (by rw [List.mem_singleton.mp z]; exact hPM)) o e, fun a h => .inl h⟩⟩
      unfold OR
      refine ⟨P, _, rfl, atP, rfl, by simpa using PySem.TriplesOk_snoc _ _ _ _ ht, fun p' cv hcv => ?_⟩
      have hcv : codeAmong p' (ps.toList ++ [rawInt pos.line, rawInt pos.col, .ref c]) = some cv := by simpa using hcv
      rcases LamX.among_app _ ht hcv with z | z
      · obtain ⟨c0, e1, e2⟩ := ha p' cv z
        obtain ⟨w1, w2⟩ := minus_some.mp e2
        exact ⟨c0, e1, minus_some.mpr ⟨w1, keep c0 (fun z => w1 (by rw [List.mem_singleton.mp z]; exact List.mem_append_right _ hPM)) _ w2⟩⟩
      · exact ⟨c, z, minus_some.mpr ⟨nM, upd_same⟩⟩
/-! ### the def that calls what it got -/
abbrev TLam := (XK → Hp → VK → Prop) → Hp → VK → Prop
structure Lent (P : Program) (w : World) (K : PySem.W.Frag) (mg : Str → Option Value) (base : Heap) (x : Str) (k : Nat) (TT : TLam) : Prop where
  at_ : ∃ (g : Addr) (pg : Arguments) (bg : List Stmt) (sg : Scope) (dV kV doc pm cdv ct oc : Value) (an od : Option Addr) (osl : Array (Option Value)) (Ng : List Str) (a : Str),
    mg x = some (.ref g) ∧ PySem.W.keepIn K (.ref g) = true ∧ K.lookup g = some ⟨oc, od, .func (PySem.W.fnOf x x pg bg sg dV kV doc pm an cdv ct), osl⟩ ∧ PySem.W.codeIn K cdv x = true ∧ Binds K (PySem.W.fnOf x x pg bg sg dV kV doc pm an cdv ct) [a] [] ∧ FnScope Ng [a] sg ∧
      Ng[0]? = some a ∧ Vis sg a ∧ (a == ("__debug__" : Str)) = false ∧ (a == ("__classdict__" : Str)) = false ∧
      ∀ X : Cx, X.prog = P → X.w = w → X.K = K → X.mg = mg → X.base = base → Room (k + 1) X.A → ∀ q, LamX.GivesTo X Ng x sg g cdv bg a q TT
def tLam3 (P : Addr) (q : Str) (TT : TLam) (t : XK → TE) : TE := fun σ H Q => LamX.TabS H P q ∧ ∀ H1, LamStep P q H H1 → TT (fun E H' Q' => t E σ H' Q') H1 Q
theorem pe_lent {X : Cx} {TT : TLam} {x : Str} {c P : Addr} {k : Nat} {params : Arguments} {body : Expr} {scope : Scope} {t : XK → TE} {p lpos pos : Pos} (T : Lent X.prog X.w X.K X.mg X.base x (k + 1) TT) (hr : Room (k + 2) X.A) (hg : Gl X x)
    (TB : LamX.TabB X.base X.mg c P) (hcode : X.env.code = .ref c) (L : LamX.LamS X.env.scope scope) (hdef : defaultsOf params X.env = ([], []))
    (hbind : ∀ (q : Str) (cl : List (Str × Addr)) (pm cv ctv : Value), bindArgs (PySem.W.kla_fn "<lambda>" q params body scope cl pm cv ctv) ⟨[], []⟩ = pure [])
    (hbody : ∀ (A : Around) (outer : List Env) (s : Shared) (H : Hp) (E : XK) (f c' : Addr), Room k (A.deeper (LamX.lamEnv X scope s.heap.objs.size f c')) → PE (LamX.lamCx X A outer s H E scope f c') body (t E))
    (hdb : (x == ("__debug__" : Str)) = false := by decide) :
    PE X (.Call (.Name x p) [.Lambda params body scope lpos] [] pos) (tLam3 P (X.env.qual ++ "<lambda>") TT t) := by
  obtain ⟨g, pg, bg, sg, dV, kV, doc, pm, cdv, ct, oc, an, od, osl, Ng, a, hm, hk, lk, hcg, hb, Sg, hNg, hva, hd, hcd, hG⟩ := T.at_
  refine ⟨fun pins s σ H Q I ⟨hT, h⟩ => wpAny_Call_Name_kw (ld_glob I hg hm ?_ hdb)⟩
  refine PySem.W.callWith_K (h₀ := X.base) I.ok.mod.kin hk ?_ (by rfl) (by rfl)
  show wpAny _ _ (spliced ((false, eval (.Lambda params body scope lpos) X.env) :: backTo pos (starEach [] X.env))) _ _ s
  refine Calls.spliced_cons (lam_make3 I TB hcode hT hdef (L.has I.ok) fun f c' pm' ctv H1 s' I1 stp hf hfn hfr hco => ?_)
  refine Calls.spliced_nil ⟨I1.kIn, ?_⟩
  have rc : codeAny (model X.prog X.w) X.A (.call (.ref g) ⟨[.ref f], []⟩) (CR C8.CX0 X.stack X.prog X.w H1 s' Q C8.E0) s' := by
    refine LamX.run_ofS (N := Ng) (ps := [a]) (us := [.ref f]) (vs := [.ref f]) lk hcg Sg hr I1.env0 (hb s' [.ref f] I1.kIn rfl) (.cons rfl .nil) rfl fun hr' => ?_
    obtain ⟨t', ht', hq'⟩ := hG X rfl rfl rfl rfl rfl hr (X.env.qual ++ "<lambda>") f c' s' H1 Q (fun E H' Q' => t E σ H' Q')
      (fun W pn xe E p1 p2 tk hW => LamX.pe_act (i := 0) I1 L hf hfn hfr (hbind _ _ _ _ _) tk hW hr' (fun A outer s H hr2 => hbody A outer s H E f c' hr2) hNg hva hd hcd) hco (h H1 stp)
    exact ⟨t', ht'.nox, hq'⟩
  refine wpAny_call (codeAny_mono rc fun r s2 hq => ?_)
  cases r with
  | error e => exact (show False from hq).elim
  | ok fl =>
    cases fl with
    | ret u => exact I1.after hq
    | next => exact False.elim hq
    | brk => exact False.elim hq
    | cont => exact False.elim hq
/-! ### told: try: return a() / except E as n: return F(n) -/
def TBack (B : Bd) (names : List Str) (m : List D → R D) : TLam := fun tl H Q =>
  tl (fun cls d H' => ∃ C c w, cls = .ref C ∧ d = none ∧ B.mg c = some (.ref C) ∧ c ∈ names ∧ m [.exc c] = .ok (.str w) ∧ ∀ H'', Same H' H'' → Q (.str w) H'') H Q
theorem lent_told {P : Program} {w : World} {K : PySem.W.Frag} {mg : Str → Option Value} {base : Heap} {x ex n a F : Str} {params : Arguments} {scope : Scope} {f C0 : Addr} {fd : FuncData} {k : Nat} {m : List D → R D} (names : List Str) {p1 p2 p3 p4 p5 p6 p7 p8 p9 p10 : Pos}
    (Fd : FunD K x x params [.Try [.Return (some (.Call (.Name a p1) [] [] p2)) p3] [.ExceptHandler (some (.Name ex p4)) (some n) [.Return (some (.Call (.Name F p5) [.Name n p6] [] p7)) p8] p9] [] [] p10] scope [] [] f fd) (S : FnScope [a, n] [a] scope) (hm : mg x = some (.ref f)) (hb : Binds K fd [a] [])
    (hC : CallsQ P w K mg base F 1 k m) (hex : mg ex = some (.ref C0)) (hcat : ∀ c ∈ names, ∀ C, mg c = some (.ref C) → PySem.W.exmOne K (.ref C) (.ref C0) = some true)
    (hva : Vis scope a := by first | exact .inl rfl | exact .inr (.inl rfl)) (hln : scope.names.lookup n = some .local := by rfl) (hgx : scope.names.lookup ex = some .globalImplicit := by rfl) (hgF : scope.names.lookup F = some .globalImplicit := by rfl)
    (hd : (a == ("__debug__" : Str)) = false := by decide) (hcd : (a == ("__classdict__" : Str)) = false := by decide) (hdx : (ex == ("__debug__" : Str)) = false := by decide) (hdF : (F == ("__debug__" : Str)) = false := by decide)
    (hdn : (n == ("__debug__" : Str)) = false := by decide) (hcn : (n == ("__classdict__" : Str)) = false := by decide) : Lent P w K mg base x (k + 1) (TBack ⟨K, mg, P, w⟩ names m) := by
  obtain ⟨oc, od, dV, kV, doc, pm, an, cdv, ct, osl, rfl, lk, hcdv, _, _⟩ := Fd.ex
  refine ⟨⟨f, params, _, scope, dV, kV, doc, pm, cdv, ct, oc, an, od, osl, [a, n], a, hm, Fd.kp, lk, hcdv, hb, S, rfl, hva, hd, hcd, ?_⟩⟩
  rintro X rfl rfl rfl rfl rfl hr q f' c' s H Q tl act hc h
  have hrm : ∀ v, L2H.RoomH k ((X.A.deeper (envOfC x scope s.heap.objs.size f cdv)).mark v) := fun v => by
    have := hr.dp; have := hr.un
    refine ⟨?_, ?_⟩
    · show X.A.depth + 1 + 3 * k + 5 < _; omega
    · show X.A.units + 3 + 16 * k + 200 < _; omega
  refine ⟨_, pss_one (ps_tryBack (X := (cxOf C8.CX0 X.prog X.w X.K X.mg X.base [a, n] x scope f cdv X.A X.stack s H C8.E0).nox) (c := .ref C0) (i := 1) (n := n) (tE := fun p cls d => tBack (bdOf X) 1 m p cls d) (Wout := fun _ _ _ _ => False)
      (tb := fun W Dn σ H => ∃ Ech : XK, (∀ cls d σ' H', Ech cls d H' → W cls d σ' H') ∧ σ[0]? = some (some (.ref f')) ∧ H c' = some (LamX.CodeO c' q) ∧ tl Ech H Dn.rt)
      rfl rfl rfl S.nd rfl hln ⟨hgx, hdx, .inl hex⟩ LamX.takes0 (fun W pn xe tk _ => ?_) (fun p oe cls d pn hz hv g0 => ?_)), ?_⟩
  · refine ⟨fun pins s' σ H' Dn I h' => ?_⟩
    obtain ⟨Ech, hW, h1, h2, h3⟩ := h'
    have hq := pss_one (ps_ret (pos := p3) (act W pn xe Ech p1 p2 tk hW))
    exact hq.run pins s' σ H' Dn I ⟨h1, h2, h3⟩
  · exact pe_back (X := (cxOf C8.CX0 X.prog X.w X.K X.mg X.base [a, n] x scope f cdv X.A X.stack s H C8.E0).nox) (a := p) (k' := k) hC (hrm _) (Nat.le_refl _) hgF rfl (.inl hln) hz hv g0 hdF hdn hcn
  · refine ⟨_, ?_, rfl, hc, h⟩
    rintro cls d σ' H' ⟨C, c, w, rfl, rfl, hC', hn, hmc, hQ⟩
    refine ⟨true, hcat c hn C hC', fun _ hl p na => ⟨C, c, w, rfl, rfl, hC', ?_, na, hmc, hQ⟩, fun z => nomatch z⟩
    exact List.getElem?_set_self (by rw [hl]; exact Nat.lt_succ_self 1)
/-! ### told in the store's terms -/
def toldR (names : List Str) (m : List D → R D) : R D × Store → MR D
  | (.exc c, st) => if c ∈ names then (match m [.exc c] with
    | .ok (.str w) => .fin (.ok (.str w), st)
    | _ => .fin (.stuck, st)) else .fin (.stuck, st)
  | r => .fin r
def mTold (names : List Str) (m : List D → R D) (f : ME) : ME := fun σ st => (f σ st).bind (toldR names m)
theorem em_told {X : Cx} {W : WX} {tb : Store} {x : Str} {c P : Addr} {j k k' : Nat} {names : List Str} {m : List D → R D} {params : Arguments} {body : Expr} {scope : Scope} {f : ME} {p lpos pos : Pos}
    (hT : Lent X.prog X.w X.K X.mg X.base x (k + 1) (TBack (bdOf X) names m)) (hr : Room k' X.A) (hk : k + 2 ≤ k') (hg : Gl X x)
    (TB : LamX.TabB X.base X.mg c P) (hcode : X.env.code = .ref c) (hj : tb[j]? = some (P, .tab (X.env.qual ++ "<lambda>"))) (L : LamX.LamS X.env.scope scope)
    (hbody : ∀ (A : Around) (outer : List Env) (s : Shared) (H : Hp) (E : XK) (f' c' : Addr), CtxD (LamX.lamCx X A outer s H E scope f' c') (WE0 E) k → EM tb (LamX.lamCx X A outer s H E scope f' c') (WE0 E) body f)
    (hdef : defaultsOf params X.env = ([], []) := by rfl)
    (hbind : ∀ (q : Str) (cl : List (Str × Addr)) (pm cv ctv : Value), bindArgs (PySem.W.kla_fn "<lambda>" q params body scope cl pm cv ctv) ⟨[], []⟩ = pure [] := by intros; rfl)
    (hdb : (x == ("__debug__" : Str)) = false := by decide) :
    EM tb X W (.Call (.Name x p) [.Lambda params body scope lpos] [] pos) (mTold names m f) :=
  pe_imp (pe_lent (t := fun E => tX (Rep (bdOf X)) (bdOf X) (WE0 E) tb f) hT (hr.mono hk) hg TB hcode L hdef hbind (fun A outer s H E f' c' hr' => hbody A outer s H E f' c' ⟨hr', takes_of rfl rfl rfl rfl, passes_of rfl⟩) hdb) fun σ H Q ⟨Oc, Om, σd, st, s, h⟩ => by
    have hj2 : (st ++ tb)[st.length + j]? = some (P, .tab (X.env.qual ++ "<lambda>")) := by
      rw [List.getElem?_append_right (by omega)]
      simpa using hj
    obtain ⟨h1, h2⟩ := SRs.lamStep s hj2
    refine ⟨h1, fun H1 stp => ?_⟩
    obtain ⟨s1, x1⟩ := h2 H1 stp
    refine ⟨Oc, Om, σd, st, s1, T.all_imp (fun r hr => ?_) (T.all_bind.mp h)⟩
    obtain ⟨r, st1⟩ := r
    cases r with
    | stuck => exact hr
    | ok d => exact fun v H' Om' s' x' r' => hr v H' Om' s' (x1.trans x') r'
    | exc c =>
      intro C H' Om' hC s' x'
      replace hr : (if c ∈ names then (match m [.exc c] with
        | .ok (.str w) => T.fin (.ok (.str w), st1)
        | _ => .fin (.stuck, st1)) else .fin (.stuck, st1) : MR D).all (wX (Rep (bdOf X)) (bdOf X) W tb Oc Om H σd σ Q) := hr
      by_cases hn : c ∈ names
      case neg => rw [if_neg hn] at hr; exact hr.elim
      rw [if_pos hn] at hr
      have no : ∀ {P : Prop}, wX (Rep (bdOf X)) (bdOf X) W tb Oc Om H σd σ Q (.stuck, st1) → P := fun h => h.elim
      cases hm : m [.exc c] with
      | stuck => rw [hm] at hr; exact no hr
      | exc c2 => rw [hm] at hr; exact no hr
      | ok d =>
        rw [hm] at hr
        cases d with
        | str w =>
          refine ⟨C, c, w, rfl, rfl, hC, hn, hm, fun H'' sm => ?_⟩
          have q : wX (Rep (bdOf X)) (bdOf X) W tb Oc Om H σd σ Q (.ok (.str w), st1) := hr
          exact q (.str w) H'' Om' (s'.same sm) ((x1.trans x').trans (.of_same sm)) (by unfold Rep; rfl)
        | _ => exact no hr
end FF
set_option maxHeartbeats 4000000
/-! lists of one's own made of what deeds tell; defs that make lambdas; the head and the end where tables are -/
namespace FF
open PySem PySem.Spec PyProof.Rows L2
/-! ### the slots' own lists, where the store is -/
section
variable {B : Bd} {Oc Om : List Addr} {σd : Sd} {st : Store} {σ : L2.St} {H H' : Hp}
theorem SRs.own {i : Nat} {ds : List D} (s : SRs B Oc Om σd st σ H) (hi : σd[i]? = some (some (.ol ds))) : ∃ p vs, σ[i]? = some (some (.ref p)) ∧ H p = some (.lst vs) ∧ p ∈ Om ∧ RepL B (fz H Oc Om) ds vs ∧
    ∀ ds' vs', RepL B (fz H Oc Om) ds' vs' → SRs B Oc Om (σd.set i (some (.ol ds'))) st σ (upd H p (.lst vs')) := by
  have hl := s.len
  have hlt : i < σd.length := (List.getElem?_eq_some_iff.mp hi).1
  obtain ⟨p, vs, k1, k2, k3, k4, k5⟩ := SR.own (i := i) s (by rw [List.getElem?_append_left hlt]; exact hi)
  rw [List.getElem?_append_left (by omega)] at k1
  refine ⟨p, vs, k1, k2, k3, k4, fun ds' vs' r => ?_⟩
  have q := k5 ds' vs' r
  rw [List.set_append_left _ _ hlt] at q
  exact q
theorem SRs.setO {i : Nat} {p : Addr} {ds : List D} {vs : List V} (s : SRs B Oc Om σd st σ H) (e : Same H H') (hi : i < σd.length) (hp : H p = none) (hv : H' p = some (.lst vs)) (r : RepL B (minus H' (p :: (Oc ++ Om))) ds vs) :
    SRs B Oc (p :: Om) (σd.set i (some (.ol ds))) st (σ.set i (some (.ref p))) H' := by
  have hl := s.len
  have q := SR.setO (i := i) (SR.same s e) (by rw [List.length_append]; omega) hv (SR.ndO s hp) r (SR.fresh s e hp)
  rw [List.set_append_left _ _ hi, List.set_append_left _ _ (by omega)] at q
  exact q
end
section
variable {X : Cx} {W : WX} {tb : Store} {e o : Expr} {es : List Expr} {f : ME} {fs : MA} {pos pos' : Pos}
/-- x = [..], what stands in it told by deeds -/
def mNewO (i : Nat) (fs : MA) : MS := fun σ st => bindO (fs σ st) σ fun ds st1 => .fin (if ds.length ≤ sizeLine ∧ i < σ.length then .next (σ.set i (some (.ol ds))) else .stuck, st1)
theorem sm_newO {i : Nat} {x : Str} {lpos : Pos} (hN : X.N.Nodup) (hi : X.N[i]? = some x) (hx : Loc X.env.scope x) (he : AM tb X W es fs) (hs : swapsWith (.List es lpos) (some (.Name x pos')) pos.line X.env = pure false := by rfl)
    (hf : X.fn x = true ∨ X.env.scope.names.lookup x = some .local := by first | exact .inl rfl | exact .inr rfl | assumption) : SM tb X W (.Assign [.Name x pos'] (.List es lpos) pos) (mNewO i fs) :=
  ps_imp (ps_set hN hi hx (pe_lst he) hs hf) fun Dn σ H ⟨Oc, Om, σd, st, s, h⟩ => tX_seqO s h fun ds st1 vs H1 Om1 s1 x1 r1 h1 => by
    replace h1 : wO (bdOf X) W tb Oc Om1 H1 Dn ((if ds.length ≤ sizeLine ∧ i < σd.length then Out.next (σd.set i (some (.ol ds))) else .stuck), st1) := h1
    by_cases z : ds.length ≤ sizeLine ∧ i < σd.length
    case neg => rw [if_neg z] at h1; exact h1.elim
    rw [if_pos z] at h1
    refine ⟨by rw [r1.length]; exact z.1, fun p hp => ?_⟩
    have e1 : Same H1 (upd H1 p (.lst vs)) := same_upd hp
    exact h1 _ _ _ (s1.setO e1 z.2 hp upd_same (by rw [fz_new2 hp]; exact r1)) (ext_new e1 hp)
/-- x.append(e) -/
def mAppO (i : Nat) (f : ME) : MS := fun σ st => match σ[i]? with
  | some (some (.ol xs)) => bindO (f σ st) σ fun d st1 => .fin (if xs.length < sizeLine then .next (σ.set i (some (.ol (xs ++ [d])))) else .stuck, st1)
  | _ => .fin (.stuck, st)
theorem sm_appO {i : Nat} {apos cpos : Pos} (ho : PE X o (tVar i)) (he : EM tb X W e f) 
    (hbase : attributeBase o "append" X.env (eval o X.env) = eval o X.env := by rfl)
    (hfew : ((backTo cpos (starEach (e :: []) X.env)).all (fun x => !x.1) && (backToKw cpos (keywordEach [] X.env)).all (fun x => x.1.isSome)
      && decide ((e :: ([] : List Expr)).length + ([] : List Keyword).length + (if ([] : List Keyword).isEmpty then 0 else 1) < 30)) = true := by rfl)
    (hline : (apos.endLine == cpos.line) = true := by rfl) (hs : starEach (e :: []) X.env = (false, eval e X.env) :: starEach [] X.env := by rfl) (hplain : (backTo cpos (starEach [] X.env)).any (·.1) = false := by rfl)
    (hsw : swapsWith (.Call (.Attribute o "append" apos) [e] [] cpos) none pos.line X.env = pure false := by rfl) :
    SM tb X W (.Expr (.Call (.Attribute o "append" apos) [e] [] cpos) pos) (mAppO i f) :=
  ps_imp (ps_expr (pe_bm PySem.F.plainAttrs_list PySem.F.slot_list_append PySem.F.type_list_append mt_append ho (pa_cons he pa_nil hs) hbase hfew hline hs hplain) hsw) fun Dn σ H ⟨Oc, Om, σd, st, s, h⟩ => by
    unfold mAppO at h
    split at h
    case h_2 => exact h.elim
    rename_i xs hx
    obtain ⟨p, vs, k1, k2, k3, k4, k5⟩ := s.own hx
    refine ⟨.ref p, k1, .inl ⟨rfl, _, SqL.of k2⟩, ?_⟩
    refine tX_seqO s h fun d st1 v H1 Om1 s1 x1 r1 h1 => ?_
    obtain ⟨p', vs', j1, j2, j3, j4, j5⟩ := s1.own hx
    rw [k1] at j1
    cases j1
    by_cases hl : xs.length < sizeLine
    case neg =>
      replace h1 : wO (bdOf X) W tb Oc Om1 H1 Dn ((if xs.length < sizeLine then Out.next (σd.set i (some (.ol (xs ++ [d])))) else .stuck), st1) := h1
      rw [if_neg hl] at h1
      exact h1.elim
    replace h1 : wO (bdOf X) W tb Oc Om1 H1 Dn ((if xs.length < sizeLine then Out.next (σd.set i (some (.ol (xs ++ [d])))) else .stuck), st1) := h1
    rw [if_pos hl] at h1
    exact ⟨p, vs', v, rfl, rfl, j2, by rw [j4.length]; exact hl, h1 σ Om1 _ (j5 _ _ (j4.append (.cons r1 .nil))) (ext_w j3)⟩
end
section
variable {X : Cx} {W : WX} {tb : Store}
/-- from here on the list stands still -/
def mFrz (i : Nat) (g : MS) : MS := fun σ st => match σ[i]? with
  | some (some (.ol xs)) => g (σ.set i (some (.lst xs))) st
  | _ => .fin (.stuck, st)
theorem sms_frz (i : Nat) {sts : List Stmt} {g : MS} (h1 : SMs tb X W sts g) : SMs tb X W sts (mFrz i g) := pss_imp h1 fun Dn σ H ⟨Oc, Om, σd, st, s, h⟩ => by
  unfold mFrz at h
  split at h
  case h_2 => exact h.elim
  rename_i xs hx
  have hlt : i < σd.length := (List.getElem?_eq_some_iff.mp hx).1
  obtain ⟨Om', s', sub⟩ := SR.freeze (i := i) s (by rw [List.getElem?_append_left hlt]; exact hx)
  rw [List.set_append_left _ _ hlt] at s'
  exact ⟨Oc, Om', _, st, s', T.all_imp (fun _ q => wO.ext (ext_less sub) q) h⟩
end
/-! ### a def that makes lambdas -/
section
variable {P : Program} {w : World} {K : PySem.W.Frag} {mg : Str → Option Value} {base : Heap} {tb : Store} {x x' qual : Str} {params : Arguments} {body : List Stmt} {scope : Scope} {fd : FuncData} {N ps : List Str} {k : Nat} {at_ : Str × Option Str}
theorem FunD.okL {CX : CXT} {sp : Sp} (F : FunD K x qual params body scope [] [] (He.fAd K at_) fd) (S : FnScope N ps scope) (len : ∀ vs H Q E, sp vs H Q E → vs.length = ps.length)
    (hbody : ∀ (A : Around) (outer : List Env) (s : Shared) (H : Hp) (vs : List V) (Q : VK) (E : XK), Room k (A.deeper (envOfC qual scope s.heap.objs.size (He.fAd K at_) (.ref (He.codeOf K at_)))) → sp vs H Q E →
      ∃ t, PSs (cxOf CX P w K mg base N qual scope (He.fAd K at_) (.ref (He.codeOf K at_)) A outer s H E) body t ∧ t { nx := fun _ H' => Q .non H', rt := Q } (L2.start N vs) H) : FnOk P w K mg base CX (k + 1) (He.fAd K at_) fd ps sp := by
  obtain ⟨oc, od, dV, kV, doc, pm, an, cdv, ct, osl, rfl, lk, hcd, _, _⟩ := F.ex
  obtain ⟨c, rfl⟩ := He.codeIn_ref hcd
  have hc : He.codeOf K at_ = c := He.codeOf_eq lk rfl
  subst hc
  exact fn_of lk hcd S len fun A outer s H vs Q E hr hsp => hbody A outer s H vs Q E hr hsp
theorem fnOkL {g : MS} (F : FunD K x' qual params body scope [] [] (He.fAd K at_) fd) (S : FnScope N ps scope)
    (hbody : ∀ (A : Around) (outer : List Env) (s : Shared) (H : Hp) (E : XK), CtxD (cxOf (L2.CX P w) P w K mg base N qual scope (He.fAd K at_) (.ref (He.codeOf K at_)) A outer s H E) (WE0 E) k →
      SMs tb (cxOf (L2.CX P w) P w K mg base N qual scope (He.fAd K at_) (.ref (He.codeOf K at_)) A outer s H E) (WE0 E) body g) : FnOk P w K mg base (L2.CX P w) (k + 1) (He.fAd K at_) fd ps (spM ⟨K, mg, P, w⟩ tb ps.length (runM ps.length N.length g)) := by
  refine FunD.okL F S (fun vs H Q E h => ?_) (fun A outer s H vs Q E hr h => ⟨_, hbody A outer s H E ⟨hr, takes_of rfl rfl rfl rfl, passes_of rfl⟩, ?_⟩)
  · obtain ⟨Oc, Om, ds, st, h1, _, h2, _⟩ := h
    rw [h2.length, h1]
  · obtain ⟨Oc, Om, ds, st, h1, h0, h2, h3⟩ := h
    unfold runM at h3
    rw [if_pos h1] at h3
    have hl : vs.length = ds.length := h2.length
    have sl : SR ⟨K, mg, P, w⟩ (Om ++ Oc) [] (startD N.length ds) (L2.start N vs) H := by
      refine ⟨fun a ha => h0.1 a (by simpa [or_comm] using ha), [], ?_, List.nodup_nil, by simp⟩
      unfold startD L2.start
      rw [List.append_nil, hl, minus_congr (O' := Oc ++ Om) (fun x => by simp [or_comm])]
      exact slots_start _ h2
    have s0 : SRs ⟨K, mg, P, w⟩ Oc ([] ++ Om) (startD N.length ds) (st ++ tb) (L2.start N vs) H := SR.both sl (by simpa using h0)
    refine ⟨Oc, Om, startD N.length ds, st, s0, T.all_imp (fun r hr => ?_) (T.all_bind.mp h3)⟩
    obtain ⟨o, st1⟩ := r
    have fin : ∀ {σ1 : Sd} {σ' : L2.St} {Om' : List Addr} {H' : Hp}, SRs ⟨K, mg, P, w⟩ Oc Om' σ1 (st1 ++ tb) σ' H' → Ext Om H Om' H' → StR ⟨K, mg, P, w⟩ Oc Om' (st1 ++ tb) H' := fun {σ1 σ' Om' H'} s' x => by
      have hl := s'.len
      obtain ⟨h1, fp, h2, h3, h4⟩ := s'
      obtain ⟨f1, f2, rfl, k1, k2⟩ := SlotsR.apart hl h2
      obtain ⟨n1, n2, n3⟩ := List.nodup_append.mp h3
      exact ⟨h1, f2, k2, n2, fun a ha => h4 a (by simp [ha])⟩
    cases o with
    | next σ1 => exact fun σ' Om' H' s' x => hr .non H' Om' (fin s' x) x rfl
    | ret d σ1 => exact fun v σ' Om' H' s' x r => hr v H' Om' (fin s' x) x r
    | brk σ1 => exact hr.elim
    | cont σ1 => exact hr.elim
    | exc c σ1 => exact fun C σ' Om' H' hc s' x => hr C H' Om' hc (fin s' x) x
    | stuck => exact hr.elim
theorem callsL_of {g : MS} (F : FunD K x' qual params body scope [] [] (He.fAd K at_) fd) (S : FnScope N ps scope) (hm : mg x = some (.ref (He.fAd K at_))) (hb : Binds K fd ps [])
    (hbody : ∀ (A : Around) (outer : List Env) (s : Shared) (H : Hp) (E : XK), CtxD (cxOf (L2.CX P w) P w K mg base N qual scope (He.fAd K at_) (.ref (He.codeOf K at_)) A outer s H E) (WE0 E) k →
      SMs tb (cxOf (L2.CX P w) P w K mg base N qual scope (He.fAd K at_) (.ref (He.codeOf K at_)) A outer s H E) (WE0 E) body g) : CallsM tb P w K mg base x ps.length (k + 1) (runM ps.length N.length g) :=
  ⟨⟨_, fd, ps, rfl, fnOkL F S hbody, hm, F.kp, hb⟩, fun ds st z => by unfold runM; rw [if_neg z]⟩
theorem CallsQ.mono {n j : Nat} {m : List D → R D} (h : CallsQ P w K mg base x n j m) (hk : j ≤ k) : CallsQ P w K mg base x n k m := by
  obtain ⟨f, fd, ps, h1, F, h2⟩ := h.at_
  exact ⟨⟨f, fd, ps, h1, ⟨F.len, fun A outer s H args us vs Q hr => F.run A outer s H args us vs Q (hr.mono hk)⟩, h2⟩⟩
end
/-! ### the head, the tables of the defs tf empty -/
def lamQ (p : He.Defn) : Str := p.1 ++ ".<locals>." ++ "<lambda>"
def tbs (K : PySem.W.Frag) (tf : List He.Defn) : Store := tf.map fun p => ((He.cT K p).2, .tab (lamQ p))
abbrev AlT : Type := AlX × Bool
def obsTG (n : Nat) (fa : List He.Fa) (fn : List He.DefD) (as : List (PySem.W.Frag → Bool)) (tf : List He.Defn) (g : Addr → Option Obj) : AlT :=
  (obsX fa fn as (He.frT g (He.asD g n)), He.tabsB g tf (He.frT g (He.asD g n)) && decide ((tf.map fun p => (He.cT (He.frT g (He.asD g n)) p).2).Nodup))
structure SaysTb (tf : List He.Defn) (h : Heap) (K : PySem.W.Frag) : Prop where
  hd : ∀ p ∈ tf, PySem.W.codeHdIn K (He.cT K p).1 (He.cT K p).2 = true
  out : ∀ p ∈ tf, K.lookup (He.cT K p).2 = none
  empty : ∀ p ∈ tf, h.get? (He.cT K p).2 = some { cls := .none, data := .fields #[] }
  nd : (tf.map fun p => (He.cT K p).2).Nodup
theorem saysTb_of {n : Nat} {tf : List He.Defn} {h : Heap} (e : (He.tabsB h.get? tf (He.frT h.get? (He.asD h.get? n)) && decide ((tf.map fun p => (He.cT (He.frT h.get? (He.asD h.get? n)) p).2).Nodup)) = true) : SaysTb tf h (He.frT h.get? (He.asD h.get? n)) := by
  rw [Bool.and_eq_true, decide_eq_true_eq] at e
  obtain ⟨e2, e3⟩ := e
  have key : ∀ p ∈ tf, PySem.W.codeHdIn (He.frT h.get? (He.asD h.get? n)) (He.cT (He.frT h.get? (He.asD h.get? n)) p).1 (He.cT (He.frT h.get? (He.asD h.get? n)) p).2 = true ∧ ∃ o, h.get? (He.cT (He.frT h.get? (He.asD h.get? n)) p).2 = some o ∧ He.emptyTab o = true := fun p hp => by
    have q := List.all_eq_true.mp e2 p hp
    rw [Bool.and_eq_true] at q
    obtain ⟨h3, h4⟩ := q
    refine ⟨h3, ?_⟩
    cases q : h.get? (He.cT (He.frT h.get? (He.asD h.get? n)) p).2 with
    | none => rw [q] at h4; cases h4
    | some o => rw [q] at h4; exact ⟨o, rfl, h4⟩
  exact ⟨fun p hp => (key p hp).1, fun p hp => by
    obtain ⟨_, o, q, z⟩ := key p hp
    exact He.frT_none q z, fun p hp => by
    obtain ⟨_, o, q, z⟩ := key p hp
    rw [q, He.emptyTab_eq z], e3⟩
def hookT (n : Nat) (fa : List He.Fa) (fn : List He.DefD) (as : List (PySem.W.Frag → Bool)) (tf : List He.Defn) : PySem.W.Hook where
  α := AlT
  obs := fun s => obsTG n fa fn as tf s.heap.get?
  val := fun _ => (valX fn, true)
  says := fun _ h => ∃ K : PySem.W.Frag, K.In h ∧ SaysX fa fn as K ∧ SaysTb tf h K
  of := fun _ _ e => ⟨_, He.frT_in, congrArg (fun z : AlT => z.1) e, saysTb_of (congrArg (fun z : AlT => z.2) e)⟩
  keeps := fun _ _ _ ⟨K, hK, c, t⟩ k => ⟨K, PySem.W.Frag.In.keeps hK k, c, t.hd, t.out, fun p hp => k _ _ (t.empty p hp), t.nd⟩
theorem obsTG_eq {n : Nat} {fa : List He.Fa} {fn : List He.DefD} {as : List (PySem.W.Frag → Bool)} {tf : List He.Defn} {g : Addr → Option Obj} {s : Shared} (h : ∀ a, g a = s.heap.get? a) : obsTG n fa fn as tf g = (hookT n fa fn as tf).obs s := by
  have e : g = s.heap.get? := funext h
  rw [e] <;> rfl
/-! ### the end -/
abbrev HB (base : Heap) (mg : Str → Option Value) (K : PySem.W.Frag) (tf : List He.Defn) : Prop := ∀ p ∈ tf, LamX.TabB base mg (He.cT K p).1 (He.cT K p).2
def EndsT (P : Program) (w : World) (K : PySem.W.Frag) (mg : Str → Option Value) (tf : List He.Defn) (f : Addr) (k : Nat) (x : Str) (m : List D → Store → MR D) : Prop :=
  ∃ fd : FuncData, (∀ (s : Shared) (u : Value), BindsTo s fd ⟨[u], []⟩ [(x, u)]) ∧ ∀ base : Heap, HB base mg K tf → FnOk P w K mg base (L2.CX P w) k f fd [x] (spM ⟨K, mg, P, w⟩ (tbs K tf) 1 m)
theorem tbs_slots {B : Bd} {G H : Hp} : ∀ (tf : List He.Defn), (∀ p ∈ tf, H (He.cT B.K p).2 = some (.tbl #[])) → SlotsR B G H (stD (tbs B.K tf)) (stV (tbs B.K tf)) (tf.map fun p => (He.cT B.K p).2)
  | [], _ => ⟨rfl, rfl⟩
  | p :: tf, h => by
    refine ⟨_, _, [(He.cT B.K p).2], tf.map fun p => (He.cT B.K p).2, rfl, rfl, ⟨_, rfl, ?_⟩, tbs_slots tf fun q hq => h q (by simp [hq])⟩
    unfold OR
    exact ⟨_, #[], rfl, h p (by simp), rfl, True.intro, fun pos cv hc => by
      have z : codeAmong pos [] = some cv := hc
      simp [codeAmong] at z⟩
theorem EndsT.at_ {l : PySem.W.OpenLaw} {w : World} {K : PySem.W.Frag} {mg : Str → Option Value} {tf : List He.Defn} {f : Addr} {k n : Nat} {x : Str} {m : List D → Store → MR D} {h : Heap} (e : EndsT l.prog w K mg tf f k x m) (KX : K.In h) (t : SaysTb tf h K)
    (hp : ∀ ns : List Int, ns.length ≤ n → (∀ z ∈ ns, Builtin.Int.intBits z ≤ 1048576) → (m [.src ns] []).all fun r => r.1 = .ok (.bl true)) : LamX.LawAtS l w K (L2.CX l.prog w) k n x mg f h := by
  obtain ⟨fd, hb, F⟩ := e
  have up : ∀ {α : Sort _} {q : Addr × Addr → Prop}, (∀ p ∈ tf, q (He.cT K p)) → ∀ p ∈ tf.map (He.cT K), q p := fun h p hp => by
    obtain ⟨d, hd, rfl⟩ := List.mem_map.mp hp
    exact h d hd
  refine ⟨fd, tf.map (He.cT K), _, up (α := Prop) t.empty, up (α := Prop) t.out, up (α := Prop) fun p hp => PySem.W.codeHd_of_K KX (t.hd p hp), hb, fun H a ns h1 h2 ht hs => ?_, fun base _ _ hB => F base fun p hp => hB _ (List.mem_map.mpr ⟨p, hp, rfl⟩)⟩
  have hE : ∀ p ∈ tf, H (He.cT K p).2 = some (.tbl #[]) := fun p hp => ht _ (List.mem_map.mpr ⟨p, hp, rfl⟩)
  refine ⟨[], tf.map fun p => (He.cT K p).2, [.src ns], [], rfl, ⟨fun a ha => ?_, _, tbs_slots (B := ⟨K, mg, l.prog, w⟩) tf hE, t.nd, fun a ha => ⟨ha, by simp⟩⟩, .cons ?_ .nil, T.all_imp (fun r hr => ?_) (hp ns h1 h2)⟩
  · obtain ⟨p, hp, rfl⟩ := List.mem_map.mp (show a ∈ tf.map fun p => (He.cT K p).2 from ha)
    rw [hE p hp]
    exact fun z => nomatch z
  · unfold Rep
    refine ⟨a, rfl, ?_⟩
    rcases hs with hs | hs
    · refine .inl ?_
      have hn : a ∉ ([] : List Addr) ++ tf.map fun p => (He.cT K p).2 := fun z => by
        obtain ⟨p, hp, e⟩ := List.mem_map.mp (show a ∈ tf.map fun p => (He.cT K p).2 from z)
        have q := hE p hp
        rw [show (He.cT K p).2 = a from e] at q
        rcases hs with y | ⟨o, y⟩
        · rw [q] at y; cases y
        · rw [q] at y; cases y
      rcases hs with y | ⟨o, y⟩
      · exact .inl (minus_some.mpr ⟨hn, y⟩)
      · exact .inr ⟨o, minus_some.mpr ⟨hn, y⟩⟩
    · exact .inr hs
  · obtain ⟨r, st⟩ := r
    cases (show r = .ok (.bl true) from hr)
    exact fun v H' Om' _ _ r => r
end FF
set_option maxHeartbeats 4000000
/-! what denotations compute: lemmas for simp -/
namespace FF
open PySem PySem.Spec PyProof.Rows L2
/-! ### results -/
@[simp] theorem quiet_stuck {α : Type} : (R.stuck : R α).quiet = R.stuck := rfl
@[simp] theorem toOut_ok {α : Type} (a : α) (σ : Sd) (k : α → Out) : (R.ok a).toOut σ k = k a := rfl
@[simp] theorem toOut_exc {α : Type} (c : Str) (σ : Sd) (k : α → Out) : (R.exc c : R α).toOut σ k = .exc c σ := rfl
@[simp] theorem bind_next (σ : Sd) (g : DS) : (Out.next σ).bind g = g σ := rfl
@[simp] theorem bind_ret (d : D) (σ : Sd) (g : DS) : (Out.ret d σ).bind g = .ret d σ := rfl
@[simp] theorem bind_exc (c : Str) (σ : Sd) (g : DS) : (Out.exc c σ).bind g = .exc c σ := rfl
@[simp] theorem bind_brk (σ : Sd) (g : DS) : (Out.brk σ).bind g = .brk σ := rfl
@[simp] theorem bind_cont (σ : Sd) (g : DS) : (Out.cont σ).bind g = .cont σ := rfl
@[simp] theorem run_ok (σ : Sd) (k : Sd → Out) : (R.ok σ).run k = k σ := rfl
@[simp] theorem then_ok {α β : Type} (a : α) (k : α → R β) : (R.ok a).then k = k a := rfl
@[simp] theorem yn_t {α : Type} (a b : R α) : (R.ok true).yn a b = a := rfl
@[simp] theorem yn_f {α : Type} (a b : R α) : (R.ok false).yn a b = b := rfl
theorem yn_ite {α : Type} (c : Bool) (a b : R α) : (R.ok c).yn a b = if c = true then a else b := by cases c <;> rfl
@[simp] theorem outR_next (σ : Sd) : outR (.next σ) = .ok .non := rfl
@[simp] theorem outR_ret (d : D) (σ : Sd) : outR (.ret d σ) = .ok d := rfl
@[simp] theorem outR_exc (c : Str) (σ : Sd) : outR (.exc c σ) = .exc c := rfl
@[simp] theorem ite_toOut {α : Type} {p : Prop} [Decidable p] (a b : R α) (σ : Sd) (k : α → Out) : (if p then a else b).toOut σ k = if p then a.toOut σ k else b.toOut σ k := by split <;> rfl
@[simp] theorem ite_outR {p : Prop} [Decidable p] (a b : Out) : outR (if p then a else b) = if p then outR a else outR b := by split <;> rfl
@[simp] theorem ite_bindO {p : Prop} [Decidable p] (a b : Out) (g : DS) : (if p then a else b).bind g = if p then a.bind g else b.bind g := by split <;> rfl
theorem ite_bindR {α β : Type} {p : Prop} [Decidable p] (a b : R α) (g : α → R β) : ((if p then a else b) >>= g) = if p then a >>= g else b >>= g := by split <;> rfl
/-! ### names -/
@[simp] theorem eV_0 (d : D) (σ : Sd) : eV 0 (some d :: σ) = if d.isOwn = true then .stuck else .ok d := rfl
@[simp] theorem eV_s (i : Nat) (x : Option D) (σ : Sd) : eV (i + 1) (x :: σ) = eV i σ := rfl
@[simp] theorem eK_v (d : D) (σ : Sd) : eK d σ = .ok d := rfl
@[simp] theorem own_non : (D.non).isOwn = false := rfl
@[simp] theorem own_bl (b : Bool) : (D.bl b).isOwn = false := rfl
@[simp] theorem own_int (b : Int) : (D.int b).isOwn = false := rfl
@[simp] theorem own_str (b : Str) : (D.str b).isOwn = false := rfl
@[simp] theorem own_tup (b : List D) : (D.tup b).isOwn = false := rfl
@[simp] theorem own_lst (b : List D) : (D.lst b).isOwn = false := rfl
@[simp] theorem own_src (b : List Int) : (D.src b).isOwn = false := rfl
@[simp] theorem own_exc (b : Str) : (D.exc b).isOwn = false := rfl
@[simp] theorem own_fn (b : Str) : (D.fn b).isOwn = false := rfl
@[simp] theorem own_dic (k : List DKey) (v : List D) : (D.dic k v).isOwn = false := rfl
/-! ### expressions -/
@[simp] theorem eO2_v (g : D → D → R D) (a b : DE) (σ : Sd) : eO2 g a b σ = (a σ >>= fun x => b σ >>= fun y => (g x y).quiet) := rfl
@[simp] theorem eO1_v (g : D → R D) (a : DE) (σ : Sd) : eO1 g a σ = (a σ >>= fun x => (g x).quiet) := rfl
@[simp] theorem eOL_v (g : List D → R D) (a : Sd → R (List D)) (σ : Sd) : eOL g a σ = (a σ >>= fun x => (g x).quiet) := rfl
@[simp] theorem aNil_v (σ : Sd) : aNil σ = .ok [] := rfl
@[simp] theorem aCons_v (f : DE) (g : Sd → R (List D)) (σ : Sd) : aCons f g σ = (f σ >>= fun d => g σ >>= fun ds => .ok (d :: ds)) := rfl
@[simp] theorem eCall_v (m : List D → R D) (fs : Sd → R (List D)) (σ : Sd) : eCall m fs σ = (fs σ >>= m) := rfl
@[simp] theorem tB1_v (f : DE) (σ : Sd) : tB1 f σ = (f σ >>= asB) := rfl
@[simp] theorem asB_bl (b : Bool) : asB (.bl b) = .ok b := rfl
@[simp] theorem notD_bl (b : Bool) : notD (.bl b) = .ok (.bl (!b)) := rfl
@[simp] theorem tNotD_v (f : Sd → R Bool) (σ : Sd) : tNotD f σ = (f σ >>= fun x => .ok (!x)) := rfl
@[simp] theorem tAndD_v (f g : Sd → R Bool) (σ : Sd) : tAndD f g σ = (f σ >>= fun x => if x = true then g σ else .ok false) := rfl
@[simp] theorem tOrD_v (f g : Sd → R Bool) (σ : Sd) : tOrD f g σ = (f σ >>= fun x => if x = true then .ok true else g σ) := rfl
@[simp] theorem eIf_v (t : Sd → R Bool) (f g : DE) (σ : Sd) : eIf t f g σ = (t σ >>= fun x => if x = true then f σ else g σ) := rfl
def andK (b : R D) : D → R D
  | .bl true => b
  | .bl false => .ok (.bl false)
  | _ => .stuck
def orK (b : R D) : D → R D
  | .bl true => .ok (.bl true)
  | .bl false => b
  | _ => .stuck
@[simp] theorem eAnd_v (f g : DE) (σ : Sd) : eAnd f g σ = (f σ >>= andK (g σ)) := by
  unfold eAnd
  cases f σ with
  | ok d => cases d <;> rfl
  | exc c => rfl
  | stuck => rfl
@[simp] theorem eOr_v (f g : DE) (σ : Sd) : eOr f g σ = (f σ >>= orK (g σ)) := by
  unfold eOr
  cases f σ with
  | ok d => cases d <;> rfl
  | exc c => rfl
  | stuck => rfl
@[simp] theorem andK_t (b : R D) : andK b (.bl true) = b := rfl
@[simp] theorem andK_f (b : R D) : andK b (.bl false) = .ok (.bl false) := rfl
@[simp] theorem orK_t (b : R D) : orK b (.bl true) = .ok (.bl true) := rfl
@[simp] theorem orK_f (b : R D) : orK b (.bl false) = b := rfl
theorem andK_b (c : Bool) (b : R D) : andK b (.bl c) = if c = true then b else .ok (.bl false) := by cases c <;> rfl
theorem orK_b (c : Bool) (b : R D) : orK b (.bl c) = if c = true then .ok (.bl true) else b := by cases c <;> rfl
@[simp] theorem andK_bb (c d : Bool) : andK (.ok (.bl d)) (.bl c) = .ok (.bl (c && d)) := by cases c <;> rfl
@[simp] theorem orK_bb (c d : Bool) : orK (.ok (.bl d)) (.bl c) = .ok (.bl (c || d)) := by cases c <;> rfl
@[simp] theorem eChain_v (g g' : D → D → R D) (a b c : DE) (σ : Sd) : eChain g g' a b c σ = (a σ >>= fun x => b σ >>= fun y => (g x y).quiet >>= andK (c σ >>= fun z => (g' y z).quiet)) := by
  unfold eChain
  refine congrArg _ (funext fun x => congrArg _ (funext fun y => congrArg _ (funext fun d => ?_)))
  cases d <;> first | rfl | (rename_i b; cases b <;> rfl)
@[simp] theorem pNone_v (σ : Sd) : pNone σ = .ok none := rfl
def asI : D → R (Option Int)
  | .int i => .ok (some i)
  | _ => .stuck
@[simp] theorem asI_int (i : Int) : asI (.int i) = .ok (some i) := rfl
@[simp] theorem pSome_v (f : DE) (σ : Sd) : pSome f σ = (f σ >>= asI) := by
  unfold pSome
  refine congrArg _ (funext fun d => ?_)
  cases d <;> rfl
@[simp] theorem eSl_v (f : DE) (l h : Sd → R (Option Int)) (σ : Sd) : eSl f l h σ = (f σ >>= fun x => l σ >>= fun l => h σ >>= fun u => (slD x l u).quiet) := rfl
@[simp] theorem eLc_v (own : List Nat) (t : Tgt) (tt : Sd → R Bool) (te : DE) (fi : Sd → R (List D)) (σ : Sd) : eLc own t tt te fi σ = (lcAll own t tt te fi σ >>= fun ys => .ok (.lst ys)) := rfl
@[simp] theorem nLc_v (own : List Nat) (t : Tgt) (tt : Sd → R Bool) (te : DE) (fi : Sd → R (List D)) (σ : Sd) : nLc own t tt te fi σ = lcAll own t tt te fi σ := rfl
@[simp] theorem nLst_v (fs : Sd → R (List D)) (σ : Sd) : nLst fs σ = (fs σ >>= szL) := rfl
@[simp] theorem tYesD_v (σ : Sd) : tYesD σ = .ok true := rfl
@[simp] theorem iSeq_v (f : DE) (σ : Sd) : iSeq f σ = (f σ >>= itemsOf) := rfl
@[simp] theorem items_lst (ds : List D) : itemsOf (.lst ds) = .ok ds := rfl
@[simp] theorem items_tup (ds : List D) : itemsOf (.tup ds) = .ok ds := rfl
@[simp] theorem items_src (ns : List Int) : itemsOf (.src ns) = .ok (ns.map .int) := rfl
/-! ### statements -/
@[simp] theorem sNil_v (σ : Sd) : sNil σ = .next σ := rfl
@[simp] theorem sCons_v (g h : DS) (σ : Sd) : sCons g h σ = (g σ).bind h := rfl
@[simp] theorem sExpr_v (f : DE) (σ : Sd) : sExpr f σ = (f σ).toOut σ fun _ => .next σ := rfl
@[simp] theorem sRet_v (f : DE) (σ : Sd) : sRet f σ = (f σ).toOut σ fun d => .ret d σ := rfl
@[simp] theorem sRetN_v (σ : Sd) : sRetN σ = .ret .non σ := rfl
@[simp] theorem sPass_v (σ : Sd) : sPass σ = .next σ := rfl
@[simp] theorem sSet_v (i : Nat) (f : DE) (σ : Sd) : sSet i f σ = (f σ).toOut σ fun d => if i < σ.length then .next (σ.set i (some d)) else .stuck := rfl
@[simp] theorem sSetO_v (i : Nat) (f : Sd → R (List D)) (σ : Sd) : sSetO i f σ = (f σ).toOut σ fun d => if i < σ.length then .next (σ.set i (some (.ol d))) else .stuck := rfl
@[simp] theorem sIf_v (t : Sd → R Bool) (g h : DS) (σ : Sd) : sIf t g h σ = (t σ).toOut σ fun b => if b = true then g σ else h σ := rfl
@[simp] theorem sRaise_v (c : Str) (σ : Sd) : sRaise c σ = .exc c σ := rfl
@[simp] theorem sFor_v (cl : List Nat) (t : Tgt) (fi : Sd → R (List D)) (g : DS) (σ : Sd) : sFor cl t fi g σ = (fi σ).toOut σ fun ds => forD cl t g ds σ := rfl
@[simp] theorem olAt_0 (xs : List D) (σ : Sd) (k : List D → Out) : olAt 0 (some (.ol xs) :: σ) k = k xs := rfl
@[simp] theorem olAt_s (i : Nat) (x : Option D) (σ : Sd) (k : List D → Out) : olAt (i + 1) (x :: σ) k = olAt i σ k := rfl
@[simp] theorem sApp_v (i : Nat) (f : DE) (σ : Sd) : sApp i f σ = olAt i σ fun xs => (f σ).toOut σ fun d => if xs.length < sizeLine then .next (σ.set i (some (.ol (xs ++ [d])))) else .stuck := rfl
@[simp] theorem sFrz_v (i : Nat) (g : DS) (σ : Sd) : sFrz i g σ = olAt i σ fun xs => g (σ.set i (some (.lst xs))) := rfl
@[simp] theorem clr_nil (σ : Sd) : clr [] σ = σ := rfl
@[simp] theorem clr_cons (i : Nat) (is : List Nat) (σ : Sd) : clr (i :: is) σ = clr is (σ.set i none) := rfl
@[simp] theorem clrO_nil (σ : Sd) : clrO [] σ = σ := rfl
@[simp] theorem clrO_cons (i : Nat) (is : List Nat) (σ : Sd) : clrO (i :: is) σ = (clrO is σ).set i none := rfl
@[simp] theorem put_nm (i : Nat) (d : D) (σ : Sd) : Tgt.put (.nm i) d σ = if i < σ.length then .ok (σ.set i (some d)) else .stuck := by rw [Tgt.put]
@[simp] theorem put_tp (ts : List Tgt) (ds : List D) (σ : Sd) : Tgt.put (.tp ts) (.tup ds) σ = if ds.length = ts.length then Tgt.puts ts ds σ else .stuck := by rw [Tgt.put]
@[simp] theorem put_tl (ts : List Tgt) (ds : List D) (σ : Sd) : Tgt.put (.tl ts) (.lst ds) σ = if ds.length = ts.length then Tgt.puts ts ds σ else .stuck := by rw [Tgt.put]
@[simp] theorem puts_nil (ds : List D) (σ : Sd) : Tgt.puts [] ds σ = .ok σ := by rw [Tgt.puts]
@[simp] theorem puts_cons (t : Tgt) (ts : List Tgt) (d : D) (ds : List D) (σ : Sd) : Tgt.puts (t :: ts) (d :: ds) σ = (Tgt.put t d σ >>= Tgt.puts ts ds) := by rw [Tgt.puts]
@[simp] theorem sAsg_v (t : Tgt) (f : DE) (σ : Sd) : sAsg t f σ = (f σ).toOut σ fun d => (t.put d σ).run .next := rfl
@[simp] theorem sPar_v (i j : Nat) (fa fb : DE) (σ : Sd) : sPar i j fa fb σ = (fa σ).toOut σ fun d => (fb σ).toOut σ fun d2 => if i < σ.length ∧ j < σ.length then .next ((σ.set i (some d)).set j (some d2)) else .stuck := rfl
@[simp] theorem sPar3_v (i j l : Nat) (fa fb fc : DE) (σ : Sd) : sPar3 i j l fa fb fc σ = (fa σ).toOut σ fun d => (fb σ).toOut σ fun d2 => (fc σ).toOut σ fun d3 => if i < σ.length ∧ j < σ.length ∧ l < σ.length then .next (((σ.set i (some d)).set j (some d2)).set l (some d3)) else .stuck := rfl
def extK (i : Nat) (σ : Sd) (xs : List D) : D → Out := fun d => match d with
  | .lst ys => if xs.length + ys.length ≤ sizeLine then .next (σ.set i (some (.ol (xs ++ ys)))) else .stuck
  | .tup ys => if xs.length + ys.length ≤ sizeLine then .next (σ.set i (some (.ol (xs ++ ys)))) else .stuck
  | _ => .stuck
/-! ### operators -/
@[simp] theorem addD_i (a b : Int) : addD (.int a) (.int b) = .ok (.int (a + b)) := rfl
@[simp] theorem addD_t (a b : List D) : addD (.tup a) (.tup b) = if a.length + b.length ≤ sizeLine then .ok (.tup (a ++ b)) else .stuck := rfl
@[simp] theorem addD_l (a b : List D) : addD (.lst a) (.lst b) = if a.length + b.length ≤ sizeLine then .ok (.lst (a ++ b)) else .stuck := rfl
@[simp] theorem addD_s (a b : Str) : addD (.str a) (.str b) = if a.length + b.length ≤ sizeLine then .ok (.str (a ++ b)) else .stuck := rfl
@[simp] theorem subD_i (a b : Int) : subD (.int a) (.int b) = .ok (.int (a - b)) := rfl
@[simp] theorem mulD_i (a b : Int) : mulD (.int a) (.int b) = if (small64B a || small64B b) = true then .ok (.int (a * b)) else .stuck := rfl
@[simp] theorem modD_i (a b : Int) : modD (.int a) (.int b) = if 0 < b then .ok (.int (a % b)) else .stuck := rfl
@[simp] theorem fdivD_i (a b : Int) : fdivD (.int a) (.int b) = if 0 < b ∧ b.natAbs < 1073741824 then .ok (.int (a / b)) else .stuck := rfl
@[simp] theorem negD_i (a : Int) : negD (.int a) = .ok (.int (-a)) := rfl
@[simp] theorem cmpD_i (p : Int → Int → Bool) (a b : Int) : cmpD p (.int a) (.int b) = .ok (.bl (p a b)) := rfl
@[simp] theorem ixD_l (ds : List D) (i : Int) : ixD (.lst ds) (.int i) = ofO (atI ds i) := rfl
@[simp] theorem ixD_t (ds : List D) (i : Int) : ixD (.tup ds) (.int i) = ofO (atI ds i) := rfl
@[simp] theorem ixD_s (ds : List Int) (i : Int) : ixD (.src ds) (.int i) = ofO ((atI ds i).map .int) := rfl
@[simp] theorem ofO_some (d : D) : ofO (some d) = .ok d := rfl
@[simp] theorem slD_l (ds : List D) (a b : Option Int) : slD (.lst ds) a b = .ok (.lst (cutD ds a b)) := rfl
@[simp] theorem slD_t (ds : List D) (a b : Option Int) : slD (.tup ds) a b = .ok (.tup (cutD ds a b)) := rfl
@[simp] theorem lenD_l (ds : List D) : lenD [.lst ds] = .ok (.int ds.length) := rfl
@[simp] theorem lenD_t (ds : List D) : lenD [.tup ds] = .ok (.int ds.length) := rfl
@[simp] theorem lenD_s (ds : List Int) : lenD [.src ds] = .ok (.int ds.length) := rfl
@[simp] theorem tupleD_l (ds : List D) : tupleD [.lst ds] = .ok (.tup ds) := rfl
@[simp] theorem tupleD_t (ds : List D) : tupleD [.tup ds] = .ok (.tup ds) := rfl
@[simp] theorem listD_l (ds : List D) : listD [.lst ds] = .ok (.lst ds) := rfl
@[simp] theorem listD_t (ds : List D) : listD [.tup ds] = .ok (.lst ds) := rfl
@[simp] theorem maxD1_2 (i j : Int) : maxD1 [.int i, .int j] = .ok (.int (if j > i then j else i)) := rfl
@[simp] theorem minD1_2 (i j : Int) : minD1 [.int i, .int j] = .ok (.int (if j < i then j else i)) := rfl
@[simp] theorem absD_i (i : Int) : absD [.int i] = .ok (.int (if i < 0 then -i else i)) := rfl
@[simp] theorem isD_b (a b : Bool) : isD (.bl a) (.bl b) = .ok (.bl (decide (a = b))) := rfl
@[simp] theorem isnotD_b (a b : Bool) : isnotD (.bl a) (.bl b) = .ok (.bl (!decide (a = b))) := rfl
@[simp] theorem isD_n (d : D) : isD d .non = .ok (.bl (isNonD d)) := by cases d <;> rfl
@[simp] theorem isnotD_n (d : D) : isnotD d .non = .ok (.bl (!isNonD d)) := by cases d <;> rfl
theorem sz_ge : 1000000 ≤ sizeLine := by decide
theorem sz_le {n : Nat} (h : n ≤ 1000000) : n ≤ sizeLine := Nat.le_trans h sz_ge
theorem sz_lt {n : Nat} (h : n < 1000000) : n < sizeLine := Nat.lt_of_lt_of_le h sz_ge
@[simp] theorem mkTup_v (ds : List D) (h : ds.length ≤ 1000000) : mkTup ds = .ok (.tup ds) := if_pos (sz_le h)
@[simp] theorem mkLst_v (ds : List D) (h : ds.length ≤ 1000000) : mkLst ds = .ok (.lst ds) := if_pos (sz_le h)
@[simp] theorem szL_v (ds : List D) (h : ds.length ≤ 1000000) : szL ds = .ok ds := if_pos (sz_le h)
/-! ### ranges -/
@[simp] theorem rangeD_len (lo : Int) (n : Nat) : (rangeD lo n).length = n := by simp [rangeD]
/-! ### isinstance -/
def isiK (T : String) (d : D) : R D := match (tyName d).bind fun n => kitB n T with
  | some b => .ok (.bl b)
  | none => .stuck
theorem eIsi_k (T : String) (f : DE) (σ : Sd) : eIsi T f σ = (f σ >>= fun d => match (tyName d).bind fun n => kitB n T with
  | some b => .ok (.bl b)
  | none => .stuck) := rfl
@[simp] theorem eIsi_v (T : String) (f : DE) (σ : Sd) : eIsi T f σ = (f σ >>= isiK T) := rfl
def isTup : D → Bool
  | .tup _ => true
  | _ => false
def isInt : D → Bool
  | .int _ => true
  | .bl _ => true
  | _ => false
def isBl : D → Bool
  | .bl _ => true
  | _ => false
/-- a datum of the kinds that isinstance may be asked of -/
def plainD : D → Bool
  | .non => true
  | .bl _ => true
  | .int _ => true
  | .str _ => true
  | .tup _ => true
  | .lst _ => true
  | _ => false
@[simp] theorem isiK_tup (d : D) (h : plainD d = true) : isiK "tuple" d = .ok (.bl (isTup d)) := by cases d <;> first | rfl | cases h
@[simp] theorem isiK_int (d : D) (h : plainD d = true) : isiK "int" d = .ok (.bl (isInt d)) := by cases d <;> first | rfl | cases h
@[simp] theorem isiK_bool (d : D) (h : plainD d = true) : isiK "bool" d = .ok (.bl (isBl d)) := by cases d <;> first | rfl | cases h
theorem plain_own {d : D} (h : plainD d = true) : d.isOwn = false := by cases d <;> first | rfl | cases h
/-! ### comprehensions -/
theorem lcD_map {own : List Nat} {t : Tgt} {te : DE} {σ : Sd} {f : D → D} : ∀ (ds : List D), (∀ d ∈ ds, ∃ σ1, t.put d (clrO own σ) = .ok σ1 ∧ te σ1 = .ok (f d)) → lcD own t tYesD te σ ds = .ok (ds.map f)
  | [], _ => rfl
  | d :: ds, h => by
    obtain ⟨σ1, h1, h2⟩ := h d (by simp)
    rw [lcD, h1, then_ok, tYesD_v, yn_t, h2, then_ok, lcD_map ds fun x hx => h x (by simp [hx])] <;> rfl
theorem lcAll_map {own : List Nat} {t : Tgt} {te : DE} {fi : Sd → R (List D)} {σ : Sd} {ds : List D} (f : D → D) (hi : fi σ = .ok ds) (h : ∀ d ∈ ds, ∃ σ1, t.put d (clrO own σ) = .ok σ1 ∧ te σ1 = .ok (f d)) (hl : ds.length ≤ 1000000) :
    lcAll own t tYesD te fi σ = .ok (ds.map f) := by
  unfold lcAll
  rw [hi, R.ok_bind, lcD_map ds h, R.quiet_ok, R.ok_bind]
  exact if_pos (by rw [List.length_map]; exact sz_le hl)
theorem lcD_filter {own : List Nat} {t : Tgt} {tt : Sd → R Bool} {te : DE} {σ : Sd} {p : D → Bool} {f : D → D} : ∀ (ds : List D), (∀ d ∈ ds, ∃ σ1, t.put d (clrO own σ) = .ok σ1 ∧ tt σ1 = .ok (p d) ∧ (p d = true → te σ1 = .ok (f d))) → lcD own t tt te σ ds = .ok ((ds.filter p).map f)
  | [], _ => rfl
  | d :: ds, h => by
    obtain ⟨σ1, h1, h2, h3⟩ := h d (by simp)
    rw [lcD, h1, then_ok, h2, yn_ite, lcD_filter ds fun x hx => h x (by simp [hx])]
    split
    · rename_i q
      rw [h3 q, List.filter_cons, if_pos q] <;> rfl
    · rename_i q
      rw [List.filter_cons, if_neg q]
theorem lcAll_filter {own : List Nat} {t : Tgt} {tt : Sd → R Bool} {te : DE} {fi : Sd → R (List D)} {σ : Sd} {ds : List D} (p : D → Bool) (f : D → D) (hi : fi σ = .ok ds) (h : ∀ d ∈ ds, ∃ σ1, t.put d (clrO own σ) = .ok σ1 ∧ tt σ1 = .ok (p d) ∧ (p d = true → te σ1 = .ok (f d))) (hl : ds.length ≤ 1000000) :
    lcAll own t tt te fi σ = .ok ((ds.filter p).map f) := by
  unfold lcAll
  rw [hi, R.ok_bind, lcD_filter ds h, R.quiet_ok, R.ok_bind]
  exact if_pos (by rw [List.length_map]; exact sz_le (Nat.le_trans (List.length_filter_le _ _) hl))
/-! ### loops: a state S a, each turn makes S (F d a) of it -/
theorem forD_fold {α : Type} {cl : List Nat} {t : Tgt} {g : DS} (S : α → Sd) (F : α → D → α) : ∀ (ds : List D) (a : α) (σ : Sd), clr cl σ = S a →
    (∀ d ∈ ds, ∀ a, ∃ σ1, t.put d (S a) = .ok σ1 ∧ ∃ σ2, clr cl σ2 = S (F a d) ∧ (g σ1 = .next σ2 ∨ g σ1 = .cont σ2)) → forD cl t g ds σ = .next (S (ds.foldl F a))
  | [], a, σ, e, _ => by
    rw [forD, e] <;> rfl
  | d :: ds, a, σ, e, h => by
    obtain ⟨σ1, h1, σ2, h2, h3⟩ := h d (by simp) a
    have ih := forD_fold S F ds (F a d) σ2 h2 fun x hx => h x (by simp [hx])
    rw [forD, e, h1, run_ok]
    rcases h3 with h3 | h3 <;> (rw [h3]; exact ih)
/-- the same with what holds of a -/
theorem forD_inv {α : Type} {cl : List Nat} {t : Tgt} {g : DS} (S : α → Sd) : ∀ (ds : List D) (I : List D → α → Prop) (a : α) (σ : Sd), clr cl σ = S a → I ds a →
    (∀ d r a, I (d :: r) a → ∃ σ1, t.put d (S a) = .ok σ1 ∧ ∃ σ2 b, clr cl σ2 = S b ∧ I r b ∧ (g σ1 = .next σ2 ∨ g σ1 = .cont σ2)) → ∃ b, I [] b ∧ forD cl t g ds σ = .next (S b)
  | [], I, a, σ, e, i, _ => ⟨a, i, by rw [forD, e]⟩
  | d :: ds, I, a, σ, e, i, h => by
    obtain ⟨σ1, h1, σ2, b, h2, h2', h3⟩ := h d ds a i
    obtain ⟨c, q1, q2⟩ := forD_inv S ds I b σ2 h2 h2' h
    refine ⟨c, q1, ?_⟩
    rw [forD, e, h1, run_ok]
    rcases h3 with h3 | h3 <;> (rw [h3]; exact q2)
end FF
set_option maxHeartbeats 4000000
/-! comparisons of small data; indices; ranges -/
namespace FF
open PySem PySem.Spec PyProof.Rows L2
theorem ibeq (a b : Int) : (a == b) = decide (a = b) := by
  by_cases h : a = b <;> simp [h]
@[simp] theorem pyEq_ii (a b : Int) : pyEq (.int a) (.int b) = decide (a = b) := by simp [pyEq, toPy, PyData.eqv, ibeq]
@[simp] theorem pyEq_bb (a b : Bool) : pyEq (.bl a) (.bl b) = decide (a = b) := by cases a <;> cases b <;> simp [pyEq, toPy, PyData.eqv]
theorem sbeq (a b : Str) : (a == b) = decide (a = b) := by
  by_cases h : a = b <;> simp [h]
@[simp] theorem pyEq_ss (a b : Str) : pyEq (.str a) (.str b) = decide (a = b) := by simp [pyEq, toPy, PyData.eqv, sbeq]
@[simp] theorem toPyL_nil : toPyL [] = [] := by simp [toPyL]
@[simp] theorem toPyL_cons (d : D) (ds : List D) : toPyL (d :: ds) = toPy d :: toPyL ds := by simp [toPyL]
@[simp] theorem pyEq_l0 (ds : List D) : pyEq (.lst ds) (.lst []) = ds.isEmpty := by cases ds <;> simp [pyEq, toPy, PyData.eqv, PyData.eqvAll]
@[simp] theorem pyEq_t0 (ds : List D) : pyEq (.tup ds) (.tup []) = ds.isEmpty := by cases ds <;> simp [pyEq, toPy, PyData.eqv, PyData.eqvAll]
@[simp] theorem pyEq_s0 (ds : List Int) : pyEq (.src ds) (.lst []) = ds.isEmpty := by cases ds <;> simp [pyEq, toPy, PyData.eqv, PyData.eqvAll]
@[simp] theorem okC_ii (a b : Int) : okC (.int a) (.int b) = true := by simp [okC, isData, dpt]
@[simp] theorem okC_bb (a b : Bool) : okC (.bl a) (.bl b) = true := by simp [okC, isData, dpt]
@[simp] theorem okC_ss (a b : Str) : okC (.str a) (.str b) = true := by simp [okC, isData, dpt]
@[simp] theorem okC_s0 (ds : List Int) : okC (.src ds) (.lst []) = true := by simp [okC, isData, dpt, dptL, isDataL]
theorem okC_l0 (ds : List D) (h : isDataL ds = true) : okC (.lst ds) (.lst []) = true := by
  simp [okC, isData, dpt, dptL, isDataL, h]
theorem okC_t0 (ds : List D) (h : isDataL ds = true) : okC (.tup ds) (.tup []) = true := by
  simp [okC, isData, dpt, dptL, isDataL, h]
@[simp] theorem eqD_ii (a b : Int) : eqD (.int a) (.int b) = .ok (.bl (decide (a = b))) := by simp [eqD]
@[simp] theorem neD_ii (a b : Int) : neD (.int a) (.int b) = .ok (.bl (!decide (a = b))) := by simp [neD]
@[simp] theorem eqD_bb (a b : Bool) : eqD (.bl a) (.bl b) = .ok (.bl (decide (a = b))) := by simp [eqD]
@[simp] theorem neD_bb (a b : Bool) : neD (.bl a) (.bl b) = .ok (.bl (!decide (a = b))) := by simp [neD]
@[simp] theorem eqD_ss (a b : Str) : eqD (.str a) (.str b) = .ok (.bl (decide (a = b))) := by simp [eqD]
@[simp] theorem neD_ss (a b : Str) : neD (.str a) (.str b) = .ok (.bl (!decide (a = b))) := by simp [neD]
@[simp] theorem eqD_s0 (ds : List Int) : eqD (.src ds) (.lst []) = .ok (.bl ds.isEmpty) := by simp [eqD]
theorem eqD_l0 (ds : List D) (h : isDataL ds = true) : eqD (.lst ds) (.lst []) = .ok (.bl ds.isEmpty) := by simp [eqD, okC_l0 ds h]
theorem eqD_t0 (ds : List D) (h : isDataL ds = true) : eqD (.tup ds) (.tup []) = .ok (.bl ds.isEmpty) := by simp [eqD, okC_t0 ds h]
theorem neD_l0 (ds : List D) (h : isDataL ds = true) : neD (.lst ds) (.lst []) = .ok (.bl (!ds.isEmpty)) := by simp [neD, okC_l0 ds h]
theorem isDataL_all : ∀ {ds : List D}, (∀ d ∈ ds, isData d = true) → isDataL ds = true
  | [], _ => by simp [isDataL]
  | d :: ds, h => by simp [isDataL, h d (by simp), isDataL_all (ds := ds) fun x hx => h x (by simp [hx])]
theorem dptL_le {n : Nat} : ∀ {ds : List D}, (∀ d ∈ ds, dpt d ≤ n) → dptL ds ≤ n
  | [], _ => by simp [dptL]
  | d :: ds, h => by
    have h1 := h d (by simp)
    have h2 := dptL_le (n := n) (ds := ds) fun x hx => h x (by simp [hx])
    simp [dptL]
    omega
theorem eqD_ok {x y : D} (h1 : isData x = true) (h2 : isData y = true) (h3 : dpt x ≤ 100) : eqD x y = .ok (.bl (pyEq x y)) := by
  have : okC x y = true := by
    simp [okC, h1, h2]
    omega
  simp [eqD, this]
theorem neD_ok {x y : D} (h1 : isData x = true) (h2 : isData y = true) (h3 : dpt x ≤ 100) : neD x y = .ok (.bl (!pyEq x y)) := by
  have : okC x y = true := by
    simp [okC, h1, h2]
    omega
  simp [neD, this]
/-! ### indices -/
theorem atI_nat {α : Type} (xs : List α) (i : Nat) : atI xs (i : Int) = xs[i]? := by
  unfold atI ixN
  by_cases h : i < xs.length
  · simp [h]
  · simp [h]
theorem atI_of {α : Type} (xs : List α) {i : Int} (h : 0 ≤ i) : atI xs i = xs[i.toNat]? := by
  obtain ⟨n, rfl⟩ := Int.eq_ofNat_of_zero_le h
  exact atI_nat xs n
@[simp] theorem atI_lit0 {α : Type} (xs : List α) : atI xs 0 = xs[0]? := atI_nat xs 0
@[simp] theorem atI_lit {α : Type} (xs : List α) (n : Nat) : atI xs (no_index (OfNat.ofNat n : Int)) = xs[n]? := atI_nat xs n
/-! ### small factors -/
@[simp] theorem s64_lit (n : Nat) (h : n < 2 ^ 64) : small64B (no_index (OfNat.ofNat n : Int)) = true := by
  have : (OfNat.ofNat n : Int) = (n : Int) := rfl
  rw [this]
  simp [small64B]
  omega
theorem s64_of {i : Int} (h : 0 ≤ i) (h2 : i < 18446744073709551616) : small64B i = true := by
  simp [small64B]
  omega
/-! ### all, any -/
theorem blsOf_map {α : Type} (p : α → Bool) : ∀ xs : List α, blsOf (xs.map fun x => D.bl (p x)) = some (xs.map p)
  | [] => rfl
  | x :: xs => by
    simp only [List.map_cons, blsOf]
    rw [blsOf_map p xs] <;> rfl
theorem allD_map {α : Type} (p : α → Bool) (xs : List α) : allD [.lst (xs.map fun x => D.bl (p x))] = .ok (.bl (xs.all p)) := by
  show (match blsOf (xs.map fun x => D.bl (p x)) with
    | some bs => R.ok (D.bl (bs.all id))
    | none => .stuck) = _
  rw [blsOf_map]
  simp [List.all_map]
theorem anyD_map {α : Type} (p : α → Bool) (xs : List α) : anyD [.lst (xs.map fun x => D.bl (p x))] = .ok (.bl (xs.any p)) := by
  show (match blsOf (xs.map fun x => D.bl (p x)) with
    | some bs => R.ok (D.bl (bs.any id))
    | none => .stuck) = _
  rw [blsOf_map]
  simp [List.any_map]
theorem intsOf_map : ∀ xs : List Int, intsOf (xs.map D.int) = some xs
  | [] => rfl
  | x :: xs => by
    simp only [List.map_cons, intsOf]
    rw [intsOf_map xs] <;> rfl
/-! ### ranges -/
def rgK : D → R (List D)
  | .int j => if j.natAbs < 4611686018427387904 then .ok (rangeD 0 j.toNat) else .stuck
  | _ => .stuck
theorem rgK_i (n : Int) (h : -1000000 ≤ n) (h2 : n ≤ 1000000) : rgK (.int n) = .ok (rangeD 0 n.toNat) := if_pos (by omega)
@[simp] theorem rgK_n (n : Nat) (h2 : n ≤ 1000000) : rgK (.int (n : Int)) = .ok (rangeD 0 n) := rgK_i n (by omega) (by omega)
@[simp] theorem rgK_l (n : Nat) (h2 : n ≤ 1000000) : rgK (.int (no_index (OfNat.ofNat n : Int))) = .ok (rangeD 0 n) := rgK_i n (by omega) (by omega)
@[simp] theorem iRange1_v (f : DE) (σ : Sd) : iRange1 f σ = (f σ >>= rgK) := by
  unfold iRange1
  refine congrArg _ (funext fun d => ?_)
  cases d <;> rfl
@[simp] theorem sExt_v (i : Nat) (f : DE) (σ : Sd) : sExt i f σ = olAt i σ fun xs => (f σ).toOut σ (extK i σ xs) := by
  unfold sExt
  refine congrArg _ (funext fun xs => congrArg _ (funext fun d => ?_))
  cases d <;> rfl
@[simp] theorem extK_l (i : Nat) (σ : Sd) (xs ys : List D) : extK i σ xs (.lst ys) = if xs.length + ys.length ≤ sizeLine then .next (σ.set i (some (.ol (xs ++ ys)))) else .stuck := rfl
@[simp] theorem extK_t (i : Nat) (σ : Sd) (xs ys : List D) : extK i σ xs (.tup ys) = if xs.length + ys.length ≤ sizeLine then .next (σ.set i (some (.ol (xs ++ ys)))) else .stuck := rfl
theorem runD_v (n N : Nat) (g : DS) (ds : List D) (h : ds.length = n) : runD n N g ds = outR (g (startD N ds)) := if_pos h
@[simp] theorem startD_1 (N : Nat) (a : D) : startD N [a] = some a :: List.replicate (N - 1) none := rfl
@[simp] theorem startD_2 (N : Nat) (a b : D) : startD N [a, b] = some a :: some b :: List.replicate (N - 2) none := rfl
@[simp] theorem startD_3 (N : Nat) (a b c : D) : startD N [a, b, c] = some a :: some b :: some c :: List.replicate (N - 3) none := rfl
@[simp] theorem startD_4 (N : Nat) (a b c d : D) : startD N [a, b, c, d] = some a :: some b :: some c :: some d :: List.replicate (N - 4) none := rfl
@[simp] theorem startD_5 (N : Nat) (a b c d e : D) : startD N [a, b, c, d, e] = some a :: some b :: some c :: some d :: some e :: List.replicate (N - 5) none := rfl
@[simp] theorem startD_6 (N : Nat) (a b c d e f : D) : startD N [a, b, c, d, e, f] = some a :: some b :: some c :: some d :: some e :: some f :: List.replicate (N - 6) none := rfl
theorem runD_1 (N : Nat) (g : DS) (a : D) : runD 1 N g [a] = outR (g (some a :: List.replicate (N - 1) none)) := rfl
theorem runD_2 (N : Nat) (g : DS) (a b : D) : runD 2 N g [a, b] = outR (g (some a :: some b :: List.replicate (N - 2) none)) := rfl
theorem runD_3 (N : Nat) (g : DS) (a b c : D) : runD 3 N g [a, b, c] = outR (g (some a :: some b :: some c :: List.replicate (N - 3) none)) := rfl
theorem runD_4 (N : Nat) (g : DS) (a b c d : D) : runD 4 N g [a, b, c, d] = outR (g (some a :: some b :: some c :: some d :: List.replicate (N - 4) none)) := rfl
theorem runD_5 (N : Nat) (g : DS) (a b c d e : D) : runD 5 N g [a, b, c, d, e] = outR (g (some a :: some b :: some c :: some d :: some e :: List.replicate (N - 5) none)) := rfl
theorem runD_6 (N : Nat) (g : DS) (a b c d e f : D) : runD 6 N g [a, b, c, d, e, f] = outR (g (some a :: some b :: some c :: some d :: some e :: some f :: List.replicate (N - 6) none)) := rfl
/-! ### isinstance, by kinds -/
@[simp] theorem isiK_int_non : isiK "int" .non = .ok (.bl false) := rfl
@[simp] theorem isiK_int_bl (b : Bool) : isiK "int" (.bl b) = .ok (.bl true) := rfl
@[simp] theorem isiK_int_int (b : Int) : isiK "int" (.int b) = .ok (.bl true) := rfl
@[simp] theorem isiK_int_str (b : Str) : isiK "int" (.str b) = .ok (.bl false) := rfl
@[simp] theorem isiK_int_tup (b : List D) : isiK "int" (.tup b) = .ok (.bl false) := rfl
@[simp] theorem isiK_int_lst (b : List D) : isiK "int" (.lst b) = .ok (.bl false) := rfl
@[simp] theorem isiK_bool_non : isiK "bool" .non = .ok (.bl false) := rfl
@[simp] theorem isiK_bool_bl (b : Bool) : isiK "bool" (.bl b) = .ok (.bl true) := rfl
@[simp] theorem isiK_bool_int (b : Int) : isiK "bool" (.int b) = .ok (.bl false) := rfl
@[simp] theorem isiK_bool_str (b : Str) : isiK "bool" (.str b) = .ok (.bl false) := rfl
@[simp] theorem isiK_bool_tup (b : List D) : isiK "bool" (.tup b) = .ok (.bl false) := rfl
@[simp] theorem isiK_bool_lst (b : List D) : isiK "bool" (.lst b) = .ok (.bl false) := rfl
@[simp] theorem isiK_tuple_non : isiK "tuple" .non = .ok (.bl false) := rfl
@[simp] theorem isiK_tuple_bl (b : Bool) : isiK "tuple" (.bl b) = .ok (.bl false) := rfl
@[simp] theorem isiK_tuple_int (b : Int) : isiK "tuple" (.int b) = .ok (.bl false) := rfl
@[simp] theorem isiK_tuple_str (b : Str) : isiK "tuple" (.str b) = .ok (.bl false) := rfl
@[simp] theorem isiK_tuple_tup (b : List D) : isiK "tuple" (.tup b) = .ok (.bl true) := rfl
@[simp] theorem isiK_tuple_lst (b : List D) : isiK "tuple" (.lst b) = .ok (.bl false) := rfl
@[simp] theorem isiK_str_non : isiK "str" .non = .ok (.bl false) := rfl
@[simp] theorem isiK_str_bl (b : Bool) : isiK "str" (.bl b) = .ok (.bl false) := rfl
@[simp] theorem isiK_str_int (b : Int) : isiK "str" (.int b) = .ok (.bl false) := rfl
@[simp] theorem isiK_str_str (b : Str) : isiK "str" (.str b) = .ok (.bl true) := rfl
@[simp] theorem isiK_str_tup (b : List D) : isiK "str" (.tup b) = .ok (.bl false) := rfl
@[simp] theorem isiK_str_lst (b : List D) : isiK "str" (.lst b) = .ok (.bl false) := rfl
@[simp] theorem isiK_list_non : isiK "list" .non = .ok (.bl false) := rfl
@[simp] theorem isiK_list_bl (b : Bool) : isiK "list" (.bl b) = .ok (.bl false) := rfl
@[simp] theorem isiK_list_int (b : Int) : isiK "list" (.int b) = .ok (.bl false) := rfl
@[simp] theorem isiK_list_str (b : Str) : isiK "list" (.str b) = .ok (.bl false) := rfl
@[simp] theorem isiK_list_tup (b : List D) : isiK "list" (.tup b) = .ok (.bl false) := rfl
@[simp] theorem isiK_list_lst (b : List D) : isiK "list" (.lst b) = .ok (.bl true) := rfl
@[simp] theorem plainD_non : plainD .non = true := rfl
@[simp] theorem isTup_non : isTup .non = false := rfl
@[simp] theorem plainD_bl (b : Bool) : plainD (.bl b) = true := rfl
@[simp] theorem isTup_bl (b : Bool) : isTup (.bl b) = false := rfl
@[simp] theorem plainD_int (b : Int) : plainD (.int b) = true := rfl
@[simp] theorem isTup_int (b : Int) : isTup (.int b) = false := rfl
@[simp] theorem plainD_str (b : Str) : plainD (.str b) = true := rfl
@[simp] theorem isTup_str (b : Str) : isTup (.str b) = false := rfl
@[simp] theorem plainD_tup (b : List D) : plainD (.tup b) = true := rfl
@[simp] theorem isTup_tup (b : List D) : isTup (.tup b) = true := rfl
@[simp] theorem plainD_lst (b : List D) : plainD (.lst b) = true := rfl
@[simp] theorem isTup_lst (b : List D) : isTup (.lst b) = false := rfl
/-! ### comprehensions over one name -/
theorem lcAll_nm {own : List Nat} {i : Nat} {te : DE} {fi : Sd → R (List D)} {σ : Sd} {ds : List D} (f : D → D) (hi : fi σ = .ok ds) (hs : i < (clrO own σ).length) (hl : ds.length ≤ 1000000) (h : ∀ d ∈ ds, te ((clrO own σ).set i (some d)) = .ok (f d)) :
    lcAll own (.nm i) tYesD te fi σ = .ok (ds.map f) := lcAll_map f hi (fun d hd => ⟨_, by rw [put_nm, if_pos hs], h d hd⟩) hl
theorem lcAll_nmF {own : List Nat} {i : Nat} {tt : Sd → R Bool} {te : DE} {fi : Sd → R (List D)} {σ : Sd} {ds : List D} (p : D → Bool) (f : D → D) (hi : fi σ = .ok ds) (hs : i < (clrO own σ).length) (hl : ds.length ≤ 1000000)
    (ht : ∀ d ∈ ds, tt ((clrO own σ).set i (some d)) = .ok (p d)) (h : ∀ d ∈ ds, p d = true → te ((clrO own σ).set i (some d)) = .ok (f d)) :
    lcAll own (.nm i) tt te fi σ = .ok ((ds.filter p).map f) := lcAll_filter p f hi (fun d hd => ⟨_, by rw [put_nm, if_pos hs], ht d hd, h d hd⟩) hl
theorem rangeD_mem {lo : Int} {n : Nat} {d : D} (h : d ∈ rangeD lo n) : ∃ i : Nat, i < n ∧ d = .int (lo + i) := by
  unfold rangeD at h
  obtain ⟨i, h1, h2⟩ := List.mem_map.mp h
  exact ⟨i, List.mem_range.mp h1, h2.symm⟩
/-- a loop that only extends -/
theorem forD_flat {cl : List Nat} {t : Tgt} {g : DS} (S : List D → Sd) (f : D → List D) : ∀ (ds : List D) (acc : List D) (σ : Sd), clr cl σ = S acc →
    (∀ d ∈ ds, ∀ acc, acc.length + (f d).length ≤ 1000000 → ∃ σ1, t.put d (S acc) = .ok σ1 ∧ ∃ σ2, clr cl σ2 = S (acc ++ f d) ∧ (g σ1 = .next σ2 ∨ g σ1 = .cont σ2)) →
    (acc ++ ds.flatMap f).length ≤ 1000000 → forD cl t g ds σ = .next (S (acc ++ ds.flatMap f))
  | [], acc, σ, e, _, _ => by
    rw [forD, e, List.flatMap_nil, List.append_nil]
  | d :: ds, acc, σ, e, h, hl => by
    have hl' : acc.length + (f d).length ≤ 1000000 := by
      simp only [List.flatMap_cons, List.length_append] at hl
      omega
    obtain ⟨σ1, h1, σ2, h2, h3⟩ := h d (by simp) acc hl'
    have e2 : acc ++ (d :: ds).flatMap f = (acc ++ f d) ++ ds.flatMap f := by simp [List.flatMap_cons]
    have ih := forD_flat S f ds (acc ++ f d) σ2 h2 (fun x hx => h x (by simp [hx])) (by rw [← e2]; exact hl)
    rw [forD, e, h1, run_ok, e2]
    rcases h3 with h3 | h3 <;> (rw [h3]; exact ih)
theorem put_nmE {i : Nat} {d : D} {σ : Sd} (h : i < σ.length) : Tgt.put (.nm i) d σ = .ok (σ.set i (some d)) := by rw [put_nm, if_pos h]
/-! ### slices -/
theorem cutD_to {α : Type} (xs : List α) (k : Nat) : cutD xs none (some (k : Int)) = xs.take k := by
  unfold cutD
  rw [HT.sIx_none, HT.sIx_nat]
  simp [List.take_take]
theorem cutD_from {α : Type} (xs : List α) (k : Nat) : cutD xs (some (k : Int)) none = xs.drop k := by
  unfold cutD
  rw [HT.sIx_none, HT.sIx_nat]
  by_cases h : k ≤ xs.length
  · rw [Nat.min_eq_left h]
    exact List.take_of_length_le (by simp)
  · rw [Nat.min_eq_right (by omega), List.drop_eq_nil_of_le (Nat.le_refl _), List.drop_eq_nil_of_le (by omega)]
    simp
theorem cutD_mid {α : Type} (xs : List α) (a b : Nat) : cutD xs (some (a : Int)) (some (b : Int)) = (xs.take b).drop a := by
  unfold cutD
  rw [HT.sIx_nat, HT.sIx_nat]
  by_cases h : a ≤ xs.length
  · rw [Nat.min_eq_left h, List.drop_take]
    by_cases h2 : b ≤ xs.length
    · rw [Nat.min_eq_left h2]
    · rw [Nat.min_eq_right (by omega), List.take_of_length_le (by simp), List.take_of_length_le (by simp; omega)]
  · rw [Nat.min_eq_right (show xs.length ≤ a by omega), List.drop_eq_nil_of_le (Nat.le_refl _), List.drop_eq_nil_of_le (by simp; omega)]
    simp
def tryK (names : List Str) (i j : Nat) : Out → Out
  | .exc c σ1 => if c ∈ names ∧ i < σ1.length ∧ j < σ1.length then .next (((σ1.set i (some (.exc c))).set j (some (.exc c))).set i none) else .stuck
  | o => o
@[simp] theorem sTry_v (names : List Str) (i j : Nat) (g : DS) (σ : Sd) : sTry names i j g σ = tryK names i j (g σ) := by
  unfold sTry
  cases g σ <;> rfl
@[simp] theorem tryK_next (names : List Str) (i j : Nat) (σ : Sd) : tryK names i j (.next σ) = .next σ := rfl
@[simp] theorem tryK_exc (names : List Str) (i j : Nat) (c : Str) (σ1 : Sd) : tryK names i j (.exc c σ1) = if c ∈ names ∧ i < σ1.length ∧ j < σ1.length then .next (((σ1.set i (some (.exc c))).set j (some (.exc c))).set i none) else .stuck := rfl
end FF
set_option maxHeartbeats 4000000
/-! trees, told by what they show -/
namespace FF
open PySem PySem.Spec PyProof.Rows L2
inductive Tr where
  | w (i : Int)
  | q (a b c d : Tr)
deriving DecidableEq
def enc : Tr → D
  | .w i => .int i
  | .q a b c d => .tup [enc a, enc b, enc c, enc d]
def Tr.ok : Nat → Tr → Prop
  | _, .w i => 0 ≤ i ∧ i ≤ 9
  | s + 1, .q a b c d => a.ok s ∧ b.ok s ∧ c.ok s ∧ d.ok s
  | 0, .q _ _ _ _ => False
def qt : Tr → Nat → Tr
  | .w i, _ => .w i
  | .q a _ _ _, 0 => a
  | .q _ b _ _, 1 => b
  | .q _ _ c _, 2 => c
  | .q _ _ _ d, _ => d
theorem Tr.ok_w {s : Nat} {i : Int} : (Tr.w i).ok s ↔ 0 ≤ i ∧ i ≤ 9 := by cases s <;> exact Iff.rfl
theorem Tr.ok_q {s : Nat} {a b c d : Tr} : (Tr.q a b c d).ok (s + 1) ↔ a.ok s ∧ b.ok s ∧ c.ok s ∧ d.ok s := Iff.rfl
theorem Tr.ok_mono : ∀ {s n : Nat} {t : Tr}, s ≤ n → t.ok s → t.ok n
  | s, n, .w i, _, h => Tr.ok_w.mpr (Tr.ok_w.mp h)
  | 0, n, .q _ _ _ _, _, h => h.elim
  | s + 1, 0, .q _ _ _ _, hn, h => by omega
  | s + 1, n + 1, .q a b c d, hn, h => ⟨Tr.ok_mono (by omega) h.1, Tr.ok_mono (by omega) h.2.1, Tr.ok_mono (by omega) h.2.2.1, Tr.ok_mono (by omega) h.2.2.2⟩
theorem qt_ok {s : Nat} {t : Tr} (h : t.ok (s + 1)) (k : Nat) : (qt t k).ok s := by
  cases t with
  | w i => exact Tr.ok_w.mpr (Tr.ok_w.mp h)
  | q a b c d =>
    obtain ⟨h1, h2, h3, h4⟩ := h
    match k with
    | 0 => exact h1
    | 1 => exact h2
    | 2 => exact h3
    | _ + 3 => exact h4
def four4 (a b c d : Tr) : Tr := match a with
  | .w i => if b = .w i ∧ c = .w i ∧ d = .w i then .w i else .q a b c d
  | _ => .q a b c d
def leanT : Tr → Tr
  | .w i => .w i
  | .q a b c d => four4 (leanT a) (leanT b) (leanT c) (leanT d)
theorem four4_ok {s : Nat} {a b c d : Tr} (ha : a.ok s) (hb : b.ok s) (hc : c.ok s) (hd : d.ok s) : (four4 a b c d).ok (s + 1) := by
  unfold four4
  split
  · split
    · exact Tr.ok_w.mpr (Tr.ok_w.mp ha)
    · exact ⟨ha, hb, hc, hd⟩
  · exact ⟨ha, hb, hc, hd⟩
theorem leanT_ok : ∀ {s : Nat} {t : Tr}, t.ok s → (leanT t).ok s
  | s, .w i, h => h
  | 0, .q _ _ _ _, h => h.elim
  | s + 1, .q a b c d, h => four4_ok (leanT_ok h.1) (leanT_ok h.2.1) (leanT_ok h.2.2.1) (leanT_ok h.2.2.2)
/-! ### what a tree shows -/
abbrev Fn2 := Nat → Nat → Int
def atT : Nat → Tr → Fn2
  | 0, .w i, _, _ => i
  | 0, .q _ _ _ _, _, _ => 0
  | s + 1, t, x, y => atT s (qt t ((if x < 2 ^ s then 0 else 1) + (if y < 2 ^ s then 0 else 2))) (if x < 2 ^ s then x else x - 2 ^ s) (if y < 2 ^ s then y else y - 2 ^ s)
def shf (f : Fn2) (a b : Nat) : Fn2 := fun x y => f (x + a) (y + b)
def leastF : Nat → Fn2 → Tr
  | 0, f => .w (f 0 0)
  | s + 1, f => four4 (leastF s f) (leastF s (shf f (2 ^ s) 0)) (leastF s (shf f 0 (2 ^ s))) (leastF s (shf f (2 ^ s) (2 ^ s)))
def Eqf (s : Nat) (f g : Fn2) : Prop := ∀ x y, x < 2 ^ s → y < 2 ^ s → f x y = g x y
theorem leastF_congr : ∀ {s : Nat} {f g : Fn2}, Eqf s f g → leastF s f = leastF s g
  | 0, f, g, h => by
    unfold leastF
    rw [h 0 0 (by decide) (by decide)]
  | s + 1, f, g, h => by
    have p : (2 : Nat) ^ (s + 1) = 2 ^ s + 2 ^ s := by rw [Nat.pow_succ]; omega
    unfold leastF
    rw [leastF_congr (f := f) (g := g) fun x y hx hy => h x y (by omega) (by omega), leastF_congr (f := shf f (2 ^ s) 0) (g := shf g (2 ^ s) 0) fun x y hx hy => h _ _ (by omega) (by omega),
      leastF_congr (f := shf f 0 (2 ^ s)) (g := shf g 0 (2 ^ s)) fun x y hx hy => h _ _ (by omega) (by omega), leastF_congr (f := shf f (2 ^ s) (2 ^ s)) (g := shf g (2 ^ s) (2 ^ s)) fun x y hx hy => h _ _ (by omega) (by omega)]
theorem leastF_const : ∀ (s : Nat) (i : Int), leastF s (fun _ _ => i) = .w i
  | 0, _ => rfl
  | s + 1, i => by
    unfold leastF
    have e (a b : Nat) : leastF s (shf (fun _ _ => i) a b) = .w i := leastF_const s i
    rw [e, e, e, leastF_const s i]
    simp [four4]
theorem atT_w : ∀ (s : Nat) (i : Int) (x y : Nat), atT s (.w i) x y = i
  | 0, _, _, _ => rfl
  | s + 1, i, x, y => by
    unfold atT
    exact atT_w s i _ _
theorem pow_pos2 (s : Nat) : 0 < 2 ^ s := Nat.pow_pos (by omega)
theorem atT_q {s : Nat} {t : Tr} {x y : Nat} (hx : x < 2 ^ s) (hy : y < 2 ^ s) : atT (s + 1) t x y = atT s (qt t 0) x y ∧ atT (s + 1) t (x + 2 ^ s) y = atT s (qt t 1) x y ∧ atT (s + 1) t x (y + 2 ^ s) = atT s (qt t 2) x y ∧ atT (s + 1) t (x + 2 ^ s) (y + 2 ^ s) = atT s (qt t 3) x y := by
  have h1 : ¬ (x + 2 ^ s < 2 ^ s) := by omega
  have h2 : ¬ (y + 2 ^ s < 2 ^ s) := by omega
  refine ⟨?_, ?_, ?_, ?_⟩ <;> (rw [atT]; simp [hx, hy, if_neg h1, if_neg h2])
theorem four4_self (i : Int) : four4 (.w i) (.w i) (.w i) (.w i) = .w i := by simp [four4]
theorem lean_least : ∀ {s : Nat} {t : Tr}, t.ok s → leanT t = leastF s (atT s t)
  | s, .w i, h => by
    have e : atT s (.w i) = fun _ _ => i := funext fun x => funext fun y => atT_w s i x y
    rw [e, leastF_const] <;> rfl
  | 0, .q _ _ _ _, h => h.elim
  | s + 1, .q a b c d, h => by
    obtain ⟨h1, h2, h3, h4⟩ := h
    unfold leanT leastF
    rw [lean_least h1, lean_least h2, lean_least h3, lean_least h4]
    rw [leastF_congr (s := s) (f := atT s a) (g := atT (s + 1) (.q a b c d)) fun x y hx hy => (atT_q (t := .q a b c d) hx hy).1.symm,
      leastF_congr (s := s) (f := atT s b) (g := shf (atT (s + 1) (.q a b c d)) (2 ^ s) 0) fun x y hx hy => (atT_q (t := .q a b c d) hx hy).2.1.symm,
      leastF_congr (s := s) (f := atT s c) (g := shf (atT (s + 1) (.q a b c d)) 0 (2 ^ s)) fun x y hx hy => (atT_q (t := .q a b c d) hx hy).2.2.1.symm,
      leastF_congr (s := s) (f := atT s d) (g := shf (atT (s + 1) (.q a b c d)) (2 ^ s) (2 ^ s)) fun x y hx hy => (atT_q (t := .q a b c d) hx hy).2.2.2.symm]
theorem at_four4 {s : Nat} {a b c d : Tr} (x y : Nat) (ha : a.ok s) (hb : b.ok s) (hc : c.ok s) (hd : d.ok s) : atT (s + 1) (four4 a b c d) x y = atT (s + 1) (.q a b c d) x y := by
  unfold four4
  split
  · split
    · rename_i i q
      obtain ⟨rfl, rfl, rfl⟩ := q
      rw [atT_w, atT]
      have e : qt (.q (.w i) (.w i) (.w i) (.w i)) ((if x < 2 ^ s then 0 else 1) + (if y < 2 ^ s then 0 else 2)) = .w i := by
        split <;> split <;> rfl
      rw [e, atT_w]
    · rfl
  · rfl
def inF (s : Nat) (f : Fn2) : Prop := ∀ x y, x < 2 ^ s → y < 2 ^ s → 0 ≤ f x y ∧ f x y ≤ 9
theorem inF_sh {s : Nat} {f : Fn2} (h : inF (s + 1) f) : inF s f ∧ inF s (shf f (2 ^ s) 0) ∧ inF s (shf f 0 (2 ^ s)) ∧ inF s (shf f (2 ^ s) (2 ^ s)) := by
  have p : (2 : Nat) ^ (s + 1) = 2 ^ s + 2 ^ s := by rw [Nat.pow_succ]; omega
  exact ⟨fun x y hx hy => h _ _ (by omega) (by omega), fun x y hx hy => h _ _ (by omega) (by omega), fun x y hx hy => h _ _ (by omega) (by omega), fun x y hx hy => h _ _ (by omega) (by omega)⟩
theorem least_ok : ∀ {s : Nat} {f : Fn2}, inF s f → (leastF s f).ok s
  | 0, f, h => h 0 0 (by decide) (by decide)
  | s + 1, f, h => by
    obtain ⟨h1, h2, h3, h4⟩ := inF_sh h
    exact four4_ok (least_ok h1) (least_ok h2) (least_ok h3) (least_ok h4)
theorem at_least : ∀ {s : Nat} {f : Fn2}, inF s f → Eqf s (atT s (leastF s f)) f
  | 0, f, h => fun x y hx hy => by
    have hx : x = 0 := by simp at hx; omega
    have hy : y = 0 := by simp at hy; omega
    subst hx hy
    rfl
  | s + 1, f, h => fun x y hx hy => by
    obtain ⟨h1, h2, h3, h4⟩ := inF_sh h
    have p : (2 : Nat) ^ (s + 1) = 2 ^ s + 2 ^ s := by rw [Nat.pow_succ]; omega
    rw [leastF, at_four4 x y (least_ok h1) (least_ok h2) (least_ok h3) (least_ok h4)]
    by_cases cx : x < 2 ^ s <;> by_cases cy : y < 2 ^ s
    · rw [(atT_q (t := .q _ _ _ _) cx cy).1]
      exact at_least h1 x y cx cy
    · obtain ⟨y, rfl⟩ : ∃ z, y = z + 2 ^ s := ⟨y - 2 ^ s, by omega⟩
      rw [(atT_q (t := .q _ _ _ _) cx (show y < 2 ^ s by omega)).2.2.1]
      exact at_least h3 x y cx (by omega)
    · obtain ⟨x, rfl⟩ : ∃ z, x = z + 2 ^ s := ⟨x - 2 ^ s, by omega⟩
      rw [(atT_q (t := .q _ _ _ _) (show x < 2 ^ s by omega) cy).2.1]
      exact at_least h2 x y (by omega) cy
    · obtain ⟨x, rfl⟩ : ∃ z, x = z + 2 ^ s := ⟨x - 2 ^ s, by omega⟩
      obtain ⟨y, rfl⟩ : ∃ z, y = z + 2 ^ s := ⟨y - 2 ^ s, by omega⟩
      rw [(atT_q (t := .q _ _ _ _) (show x < 2 ^ s by omega) (show y < 2 ^ s by omega)).2.2.2]
      exact at_least h4 x y (by omega) (by omega)
theorem at_in : ∀ {s : Nat} {t : Tr}, t.ok s → inF s (atT s t)
  | s, .w i, h => fun x y _ _ => by
    rw [atT_w]
    exact Tr.ok_w.mp h
  | 0, .q _ _ _ _, h => h.elim
  | s + 1, .q a b c d, h => fun x y hx hy => by
    have p : (2 : Nat) ^ (s + 1) = 2 ^ s + 2 ^ s := by rw [Nat.pow_succ]; omega
    obtain ⟨h1, h2, h3, h4⟩ := h
    by_cases cx : x < 2 ^ s <;> by_cases cy : y < 2 ^ s
    · rw [(atT_q (t := .q a b c d) cx cy).1]
      exact at_in h1 x y cx cy
    · obtain ⟨y, rfl⟩ : ∃ z, y = z + 2 ^ s := ⟨y - 2 ^ s, by omega⟩
      rw [(atT_q (t := .q _ _ _ _) cx (show y < 2 ^ s by omega)).2.2.1]
      exact at_in h3 x y cx (by omega)
    · obtain ⟨x, rfl⟩ : ∃ z, x = z + 2 ^ s := ⟨x - 2 ^ s, by omega⟩
      rw [(atT_q (t := .q _ _ _ _) (show x < 2 ^ s by omega) cy).2.1]
      exact at_in h2 x y (by omega) cy
    · obtain ⟨x, rfl⟩ : ∃ z, x = z + 2 ^ s := ⟨x - 2 ^ s, by omega⟩
      obtain ⟨y, rfl⟩ : ∃ z, y = z + 2 ^ s := ⟨y - 2 ^ s, by omega⟩
      rw [(atT_q (t := .q _ _ _ _) (show x < 2 ^ s by omega) (show y < 2 ^ s by omega)).2.2.2]
      exact at_in h4 x y (by omega) (by omega)
/-! ### rows -/
def rowsT : Nat → Tr → List (List Int)
  | 0, t => [[atT 0 t 0 0]]
  | s + 1, t => List.zipWith (· ++ ·) (rowsT s (qt t 0)) (rowsT s (qt t 1)) ++ List.zipWith (· ++ ·) (rowsT s (qt t 2)) (rowsT s (qt t 3))
def rowsF (s : Nat) (f : Fn2) : List (List Int) := (List.range (2 ^ s)).map fun y => (List.range (2 ^ s)).map fun x => f x y
theorem range_two (n : Nat) : List.range (n + n) = List.range n ++ (List.range n).map (· + n) := by
  rw [List.range_add]
  congr 1
  exact List.map_congr_left fun x _ => Nat.add_comm _ _
theorem zipWith_maps {α β γ δ : Type} (g : β → γ → δ) (f1 : α → β) (f2 : α → γ) : ∀ xs : List α, List.zipWith g (xs.map f1) (xs.map f2) = xs.map fun x => g (f1 x) (f2 x)
  | [] => rfl
  | x :: xs => by
    simp only [List.map_cons, List.zipWith_cons_cons]
    rw [zipWith_maps g f1 f2 xs]
theorem rows_eq : ∀ (s : Nat) (t : Tr), rowsT s t = rowsF s (atT s t)
  | 0, t => rfl
  | s + 1, t => by
    have p : (2 : Nat) ^ (s + 1) = 2 ^ s + 2 ^ s := by rw [Nat.pow_succ]; omega
    rw [rowsT, rows_eq s, rows_eq s, rows_eq s, rows_eq s]
    unfold rowsF
    rw [zipWith_maps, zipWith_maps, p, range_two, List.map_append, List.map_map]
    congr 1
    · refine List.map_congr_left fun y hy => ?_
      have hy := List.mem_range.mp hy
      rw [List.map_append, List.map_map]
      congr 1
      · exact List.map_congr_left fun x hx => (atT_q (List.mem_range.mp hx) hy).1.symm
      · exact List.map_congr_left fun x hx => (atT_q (List.mem_range.mp hx) hy).2.1.symm
    · refine List.map_congr_left fun y hy => ?_
      have hy := List.mem_range.mp hy
      simp only [Function.comp_def, List.map_append, List.map_map]
      congr 1
      · exact List.map_congr_left fun x hx => (atT_q (List.mem_range.mp hx) hy).2.2.1.symm
      · exact List.map_congr_left fun x hx => (atT_q (List.mem_range.mp hx) hy).2.2.2.symm
end FF
set_option maxHeartbeats 4000000
/-! trees and rows as data; things -/
namespace FF
open PySem PySem.Spec PyProof.Rows L2
/-! ### equality of data without truth values -/
mutual
def clean : D → Bool
  | .non => true
  | .int _ => true
  | .str _ => true
  | .tup xs => cleanL xs
  | .lst xs => cleanL xs
  | _ => false
def cleanL : List D → Bool
  | [] => true
  | d :: ds => clean d && cleanL ds
end
mutual
theorem eq_clean : ∀ x y : D, clean x = true → clean y = true → (PyData.eqv (toPy x) (toPy y) = true ↔ x = y)
  | .non, y, _, hy => by cases y <;> first | (simp [clean] at hy; done) | simp [toPy, PyData.eqv]
  | .int i, y, _, hy => by cases y <;> first | (simp [clean] at hy; done) | simp [toPy, PyData.eqv]
  | .str i, y, _, hy => by cases y <;> first | (simp [clean] at hy; done) | simp [toPy, PyData.eqv]
  | .tup xs, y, hx, hy => by
    simp only [clean] at hx
    cases y <;> first | (simp [clean] at hy; done) | skip
    case tup ys =>
      simp only [clean] at hy
      simp only [toPy, PyData.eqv, D.tup.injEq]
      exact eq_cleanL xs ys hx hy
    all_goals simp [toPy, PyData.eqv]
  | .lst xs, y, hx, hy => by
    simp only [clean] at hx
    cases y <;> first | (simp [clean] at hy; done) | skip
    case lst ys =>
      simp only [clean] at hy
      simp only [toPy, PyData.eqv, D.lst.injEq]
      exact eq_cleanL xs ys hx hy
    all_goals simp [toPy, PyData.eqv]
theorem eq_cleanL : ∀ xs ys : List D, cleanL xs = true → cleanL ys = true → (PyData.eqvAll (toPyL xs) (toPyL ys) = true ↔ xs = ys)
  | [], [], _, _ => by simp [PyData.eqvAll]
  | [], y :: ys, _, _ => by simp [PyData.eqvAll]
  | x :: xs, [], _, _ => by simp [PyData.eqvAll]
  | x :: xs, y :: ys, hx, hy => by
    simp only [cleanL, Bool.and_eq_true] at hx hy
    simp only [toPyL_cons, PyData.eqvAll, Bool.and_eq_true, List.cons.injEq]
    rw [eq_clean x y hx.1 hy.1, eq_cleanL xs ys hx.2 hy.2]
end
theorem pyEq_clean {x y : D} (hx : clean x = true) (hy : clean y = true) : pyEq x y = true ↔ x = y := eq_clean x y hx hy
theorem pyEq_self {x : D} (hx : clean x = true) : pyEq x x = true := (pyEq_clean hx hx).mpr rfl
theorem cleanL_all {xs : List D} : cleanL xs = true ↔ ∀ x ∈ xs, clean x = true := by
  induction xs with
  | nil => simp [cleanL]
  | cons x xs ih => simp [cleanL, ih]
mutual
theorem clean_data : ∀ x : D, clean x = true → isData x = true
  | .non, _ => by simp [isData]
  | .int _, _ => by simp [isData]
  | .str _, _ => by simp [isData]
  | .tup xs, h => by
    simp only [clean] at h
    simp only [isData]
    exact cleanL_data xs h
  | .lst xs, h => by
    simp only [clean] at h
    simp only [isData]
    exact cleanL_data xs h
  | .bl _, h => by simp [clean] at h
  | .src _, h => by simp [clean] at h
  | .dic _ _, h => by simp [clean] at h
  | .exc _, h => by simp [clean] at h
  | .fn _, h => by simp [clean] at h
  | .ol _, h => by simp [clean] at h
  | .ol2 _, h => by simp [clean] at h
  | .od _ _, h => by simp [clean] at h
  | .oi _ _ _, h => by simp [clean] at h
  | .odT _ _, h => by simp [clean] at h
  | .odN _ _, h => by simp [clean] at h
  | .kt _, h => by simp [clean] at h
  | .row _, h => by simp [clean] at h
  | .ob _, h => by simp [clean] at h
  | .inst _ _ _, h => by simp [clean] at h
  | .tab _, h => by simp [clean] at h
theorem cleanL_data : ∀ xs : List D, cleanL xs = true → isDataL xs = true
  | [], _ => by simp [isDataL]
  | x :: xs, h => by
    simp only [cleanL, Bool.and_eq_true] at h
    simp [isDataL, clean_data x h.1, cleanL_data xs h.2]
end
/-! ### trees -/
theorem enc_clean : ∀ t : Tr, clean (enc t) = true
  | .w i => by simp [enc, clean]
  | .q a b c d => by simp [enc, clean, cleanL, enc_clean a, enc_clean b, enc_clean c, enc_clean d]
theorem enc_inj : ∀ {a b : Tr}, enc a = enc b → a = b
  | .w i, .w j, h => by simpa [enc] using h
  | .w i, .q _ _ _ _, h => by simp [enc] at h
  | .q _ _ _ _, .w j, h => by simp [enc] at h
  | .q a b c d, .q a' b' c' d', h => by
    simp only [enc, D.tup.injEq, List.cons.injEq, and_true] at h
    rw [enc_inj h.1, enc_inj h.2.1, enc_inj h.2.2.1, enc_inj h.2.2.2]
theorem pyEq_enc (a b : Tr) : pyEq (enc a) (enc b) = decide (a = b) := by
  by_cases h : a = b
  · subst h
    simp [pyEq_self (enc_clean a)]
  · simp only [h, decide_false]
    cases q : pyEq (enc a) (enc b) with
    | false => rfl
    | true => exact absurd (enc_inj ((pyEq_clean (enc_clean a) (enc_clean b)).mp q)) h
theorem enc_own (t : Tr) : (enc t).isOwn = false := by cases t <;> rfl
theorem enc_plain (t : Tr) : plainD (enc t) = true := by cases t <;> rfl
theorem enc_dpt : ∀ {s : Nat} {t : Tr}, t.ok s → dpt (enc t) ≤ s
  | s, .w i, _ => by simp [enc, dpt]
  | 0, .q _ _ _ _, h => h.elim
  | s + 1, .q a b c d, h => by
    have h1 := enc_dpt h.1
    have h2 := enc_dpt h.2.1
    have h3 := enc_dpt h.2.2.1
    have h4 := enc_dpt h.2.2.2
    simp [enc, dpt, dptL]
    omega
theorem eqD_enc {s : Nat} {a b : Tr} (hs : s ≤ 100) (h : a.ok s) : eqD (enc a) (enc b) = .ok (.bl (decide (a = b))) := by
  rw [eqD_ok (clean_data _ (enc_clean a)) (clean_data _ (enc_clean b)) (Nat.le_trans (enc_dpt h) hs), pyEq_enc]
theorem neD_enc {s : Nat} {a b : Tr} (hs : s ≤ 100) (h : a.ok s) : neD (enc a) (enc b) = .ok (.bl (!decide (a = b))) := by
  rw [neD_ok (clean_data _ (enc_clean a)) (clean_data _ (enc_clean b)) (Nat.le_trans (enc_dpt h) hs), pyEq_enc]
/-! ### things: n, how deep at most -/
def okN : Nat → D → Prop
  | 0, d => plainD d = true ∧ isTup d = false ∧ isData d = true
  | n + 1, d => (plainD d = true ∧ isTup d = false ∧ isData d = true) ∨ ∃ xs : List D, d = .tup xs ∧ xs.length ≤ 8 ∧ ∀ x ∈ xs, okN n x
theorem okN.pl : ∀ {n : Nat} {d : D}, okN n d → plainD d = true
  | 0, d, h => h.1
  | n + 1, d, h => by
    rcases h with h | ⟨xs, rfl, _, _⟩
    · exact h.1
    · rfl
theorem okN.data : ∀ {n : Nat} {d : D}, okN n d → isData d = true
  | 0, d, h => h.2.2
  | n + 1, d, h => by
    rcases h with h | ⟨xs, rfl, _, h2⟩
    · exact h.2.2
    · simp [isData]
      exact isDataL_all fun x hx => (h2 x hx).data
theorem okN.tup {n : Nat} {xs : List D} (h : okN n (.tup xs)) : ∃ m, n = m + 1 ∧ xs.length ≤ 8 ∧ ∀ x ∈ xs, okN m x := by
  cases n with
  | zero => exact absurd h.2.1 (by simp [isTup])
  | succ n =>
    rcases h with h | ⟨ys, e, h1, h2⟩
    · exact absurd h.2.1 (by simp [isTup])
    · cases e
      exact ⟨n, rfl, h1, h2⟩
theorem okN.mono : ∀ {n m : Nat} {d : D}, n ≤ m → okN n d → okN m d
  | 0, 0, d, _, h => h
  | 0, m + 1, d, _, h => .inl h
  | n + 1, 0, d, hm, h => by omega
  | n + 1, m + 1, d, hm, h => by
    rcases h with h | ⟨xs, e, h1, h2⟩
    · exact .inl h
    · exact .inr ⟨xs, e, h1, fun x hx => okN.mono (by omega) (h2 x hx)⟩
theorem isTup_iff {d : D} (h : isTup d = true) : ∃ xs, d = .tup xs := by
  cases d <;> first | exact ⟨_, rfl⟩ | cases h
theorem lit_ok {n : Nat} {d : D} (h : plainD d = true ∧ isTup d = false ∧ isData d = true) : okN n d := okN.mono (Nat.zero_le n) (n := 0) h
theorem int_ok (n : Nat) (i : Int) : okN n (.int i) := lit_ok ⟨rfl, rfl, by simp [isData]⟩
theorem tup_ok {n : Nat} {xs : List D} (hl : xs.length ≤ 8) (h : ∀ x ∈ xs, okN n x) : okN (n + 1) (.tup xs) := .inr ⟨xs, rfl, hl, h⟩
def isWorth : D → Bool
  | .int i => decide (0 ≤ i) && decide (i ≤ 9)
  | _ => false
def isTree : Nat → D → Bool
  | 0, d => isWorth d
  | s + 1, d => isWorth d || (match d with
    | .tup xs => decide (xs.length = 4) && xs.all (isTree s)
    | _ => false)
def isPic : D → Bool
  | .tup [.int i, t] => decide (0 ≤ i) && decide (i < 4) && isTree i.toNat t
  | _ => false
theorem isTree_cases {s : Nat} {d : D} (h : isTree s d = true) : (∃ i : Int, d = .int i ∧ 0 ≤ i ∧ i ≤ 9) ∨ ∃ s' xs, s = s' + 1 ∧ d = .tup xs ∧ xs.length = 4 ∧ ∀ x ∈ xs, isTree s' x = true := by
  cases d with
  | int i =>
    refine .inl ⟨i, rfl, ?_⟩
    cases s <;> simpa [isTree, isWorth] using h
  | tup xs =>
    cases s with
    | zero => simp [isTree, isWorth] at h
    | succ s =>
      simp only [isTree, isWorth, Bool.false_or, Bool.and_eq_true, decide_eq_true_eq, List.all_eq_true] at h
      exact .inr ⟨s, xs, rfl, rfl, h.1, h.2⟩
  | _ => cases s <;> simp [isTree, isWorth] at h
theorem isTree_enc : ∀ {s : Nat} {d : D}, isTree s d = true → ∃ t : Tr, d = enc t ∧ t.ok s
  | s, d, h => by
    rcases isTree_cases h with ⟨i, rfl, h1⟩ | ⟨s', xs, rfl, rfl, h1, h2⟩
    · exact ⟨.w i, rfl, Tr.ok_w.mpr h1⟩
    · rcases xs with _ | ⟨a, _ | ⟨b, _ | ⟨c, _ | ⟨d, _ | ⟨e, r⟩⟩⟩⟩⟩ <;> first | (simp at h1; done) | skip
      obtain ⟨ta, ea, oa⟩ := isTree_enc (h2 a (by simp))
      obtain ⟨tb, eb, ob⟩ := isTree_enc (h2 b (by simp))
      obtain ⟨tc, ec, oc⟩ := isTree_enc (h2 c (by simp))
      obtain ⟨td, ed, od⟩ := isTree_enc (h2 d (by simp))
      exact ⟨.q ta tb tc td, by rw [ea, eb, ec, ed]; rfl, oa, ob, oc, od⟩
theorem enc_isTree : ∀ {s : Nat} {t : Tr}, t.ok s → isTree s (enc t) = true
  | s, .w i, h => by
    have := Tr.ok_w.mp h
    cases s <;> simp [isTree, isWorth, enc, this]
  | 0, .q _ _ _ _, h => h.elim
  | s + 1, .q a b c d, h => by simp [isTree, enc, enc_isTree h.1, enc_isTree h.2.1, enc_isTree h.2.2.1, enc_isTree h.2.2.2]
theorem enc_ok : ∀ {s : Nat} {t : Tr}, t.ok s → okN s (enc t)
  | s, .w i, _ => int_ok s i
  | 0, .q _ _ _ _, h => h.elim
  | s + 1, .q a b c d, h => tup_ok (by simp) (by
    intro x hx
    simp only [List.mem_cons, List.not_mem_nil, or_false] at hx
    rcases hx with rfl | rfl | rfl | rfl
    · exact enc_ok h.1
    · exact enc_ok h.2.1
    · exact enc_ok h.2.2.1
    · exact enc_ok h.2.2.2)
/-- a picture -/
def encPic (s : Nat) (t : Tr) : D := .tup [.int (s : Int), enc t]
theorem isPic_iff {d : D} : isPic d = true ↔ ∃ (s : Nat) (t : Tr), d = encPic s t ∧ s < 4 ∧ t.ok s := by
  constructor
  · intro h
    unfold isPic at h
    split at h
    · rename_i i t
      simp only [Bool.and_eq_true, decide_eq_true_eq] at h
      obtain ⟨⟨h1, h2⟩, h3⟩ := h
      obtain ⟨s, rfl⟩ := Int.eq_ofNat_of_zero_le h1
      obtain ⟨t, rfl, ht⟩ := isTree_enc h3
      exact ⟨s, t, rfl, by omega, ht⟩
    · cases h
  · rintro ⟨s, t, rfl, h1, h2⟩
    simp [isPic, encPic, enc_isTree h2]
    omega
theorem encPic_ok {s : Nat} {t : Tr} (h : t.ok s) : okN (s + 1) (encPic s t) := tup_ok (by simp) (by
  intro x hx
  simp only [List.mem_cons, List.not_mem_nil, or_false] at hx
  rcases hx with rfl | rfl
  · exact int_ok _ _
  · exact enc_ok h)
theorem encPic_clean (s : Nat) (t : Tr) : clean (encPic s t) = true := by simp [encPic, clean, cleanL, enc_clean]
theorem encPic_inj {s s' : Nat} {t t' : Tr} (h : encPic s t = encPic s' t') : s = s' ∧ t = t' := by
  simp only [encPic, D.tup.injEq, List.cons.injEq, D.int.injEq, and_true] at h
  exact ⟨by omega, enc_inj h.2⟩
/-! ### rows as data -/
def encRow (r : List Int) : D := .tup (r.map .int)
def encRows (rs : List (List Int)) : D := .tup (rs.map encRow)
def encRowL (r : List Int) : D := .lst (r.map .int)
def encRowsL (rs : List (List Int)) : D := .lst (rs.map encRowL)
theorem cleanL_ints (r : List Int) : cleanL (r.map D.int) = true := cleanL_all.mpr fun x hx => by
  obtain ⟨i, _, rfl⟩ := List.mem_map.mp hx
  simp [clean]
theorem encRow_clean (r : List Int) : clean (encRow r) = true := by simp [encRow, clean, cleanL_ints]
theorem encRows_clean (rs : List (List Int)) : clean (encRows rs) = true := by
  simp only [encRows, clean]
  exact cleanL_all.mpr fun x hx => by
    obtain ⟨i, _, rfl⟩ := List.mem_map.mp hx
    exact encRow_clean i
end FF
set_option maxHeartbeats 4000000
/-! comprehensions and loops over any lists -/
namespace FF
open PySem PySem.Spec PyProof.Rows L2
def mapR {α : Type} (f : α → R D) : List α → R (List D)
  | [] => .ok []
  | a :: as => (f a).then fun y => (mapR f as).then fun ys => .ok (y :: ys)
def szQ (ys : List D) : R (List D) := if ys.length ≤ sizeLine then .ok ys else .stuck
def mapQ {α : Type} (f : α → R D) (xs : List α) : R (List D) := (mapR f xs).quiet >>= szQ
def filR {α : Type} (t : α → R Bool) (f : α → R D) : List α → R (List D)
  | [] => .ok []
  | a :: as => (t a).yn ((f a).then fun y => (filR t f as).then fun ys => .ok (y :: ys)) (filR t f as)
def filQ {α : Type} (t : α → R Bool) (f : α → R D) (xs : List α) : R (List D) := (filR t f xs).quiet >>= szQ
theorem lcD_mapR (own : List Nat) (t : Tgt) (te : DE) (σ : Sd) : ∀ ds : List D, lcD own t tYesD te σ ds = mapR (fun d => (t.put d (clrO own σ)).then te) ds
  | [] => rfl
  | d :: ds => by
    rw [lcD, mapR, lcD_mapR own t te σ ds]
    cases t.put d (clrO own σ) <;> rfl
theorem lcD_filR (own : List Nat) (t : Tgt) (tt : Sd → R Bool) (te : DE) (σ : Sd) : ∀ ds : List D, lcD own t tt te σ ds = filR (fun d => (t.put d (clrO own σ)).then tt) (fun d => (t.put d (clrO own σ)).then te) ds
  | [] => rfl
  | d :: ds => by
    rw [lcD, filR, lcD_filR own t tt te σ ds]
    cases t.put d (clrO own σ) <;> rfl
theorem lcAll_mapQ (own : List Nat) (t : Tgt) (te : DE) (fi : Sd → R (List D)) (σ : Sd) : lcAll own t tYesD te fi σ = (fi σ >>= mapQ fun d => (t.put d (clrO own σ)).then te) := by
  unfold lcAll mapQ
  refine congrArg _ (funext fun ds => ?_)
  rw [lcD_mapR] <;> rfl
theorem lcAll_filQ (own : List Nat) (t : Tgt) (tt : Sd → R Bool) (te : DE) (fi : Sd → R (List D)) (σ : Sd) : lcAll own t tt te fi σ = (fi σ >>= filQ (fun d => (t.put d (clrO own σ)).then tt) fun d => (t.put d (clrO own σ)).then te) := by
  unfold lcAll filQ
  refine congrArg _ (funext fun ds => ?_)
  rw [lcD_filR] <;> rfl
theorem mapR_ok {α : Type} (g : α → D) : ∀ xs : List α, mapR (fun a => R.ok (g a)) xs = .ok (xs.map g)
  | [] => rfl
  | x :: xs => by rw [mapR, mapR_ok g xs]; rfl
@[simp] theorem mapQ_ok {α : Type} (g : α → D) (xs : List α) (h : xs.length ≤ 1000000) : mapQ (fun a => R.ok (g a)) xs = .ok (xs.map g) := by
  unfold mapQ
  rw [mapR_ok]
  exact if_pos (by rw [List.length_map]; exact sz_le h)
theorem mapR_congr {α : Type} {f g : α → R D} : ∀ {xs : List α}, (∀ a ∈ xs, f a = g a) → mapR f xs = mapR g xs
  | [], _ => rfl
  | x :: xs, h => by rw [mapR, mapR, h x (by simp), mapR_congr fun a ha => h a (by simp [ha])]
theorem mapQ_congr {α : Type} {f g : α → R D} {xs ys : List α} (e : xs = ys) (h : ∀ a, a ∈ ys → f a = g a) : mapQ f xs = mapQ g ys := by
  subst e
  unfold mapQ
  rw [mapR_congr h]
theorem mapR_map {α β : Type} (f : β → R D) (g : α → β) : ∀ xs : List α, mapR f (xs.map g) = mapR (fun a => f (g a)) xs
  | [] => rfl
  | x :: xs => by rw [List.map_cons, mapR, mapR, mapR_map f g xs]
@[simp] theorem mapQ_map {α β : Type} (f : β → R D) (g : α → β) (xs : List α) : mapQ f (xs.map g) = mapQ (fun a => f (g a)) xs := by
  unfold mapQ
  rw [mapR_map]
theorem mapR_bind {α : Type} (f : α → R D) (a : α) (as : List α) : mapR f (a :: as) = (f a).then fun y => (mapR f as).then fun ys => .ok (y :: ys) := rfl
@[simp] theorem quiet_ok' {α : Type} (a : α) : (R.ok a).quiet = .ok a := rfl
@[simp] theorem then_stuck {α β : Type} (k : α → R β) : (R.stuck : R α).then k = .stuck := rfl
@[simp] theorem mapQ_nil {α : Type} (f : α → R D) : mapQ f [] = .ok [] := rfl
theorem sz4 : 4 ≤ sizeLine := sz_le (by omega)
@[simp] theorem mapQ_cons {α : Type} (f : α → R D) (a : α) (as : List α) : mapQ f (a :: as) = (mapR f (a :: as)).quiet >>= szQ := rfl
@[simp] theorem mapR_nil {α : Type} (f : α → R D) : mapR f [] = .ok [] := rfl
@[simp] theorem mapR_cons {α : Type} (f : α → R D) (a : α) (as : List α) : mapR f (a :: as) = (f a).then fun y => (mapR f as).then fun ys => .ok (y :: ys) := rfl
@[simp] theorem szQ_v (ds : List D) (h : ds.length ≤ 1000000) : szQ ds = .ok ds := if_pos (sz_le h)
/-! with conditions -/
theorem filR_ok {α : Type} (p : α → Bool) (g : α → D) : ∀ xs : List α, filR (fun a => R.ok (p a)) (fun a => R.ok (g a)) xs = .ok ((xs.filter p).map g)
  | [] => rfl
  | x :: xs => by
    rw [filR, filR_ok p g xs]
    cases h : p x <;> simp [h] <;> rfl
@[simp] theorem filQ_ok {α : Type} (p : α → Bool) (g : α → D) (xs : List α) (h : xs.length ≤ 1000000) : filQ (fun a => R.ok (p a)) (fun a => R.ok (g a)) xs = .ok ((xs.filter p).map g) := by
  unfold filQ
  rw [filR_ok]
  exact if_pos (by rw [List.length_map]; exact sz_le (Nat.le_trans (List.length_filter_le _ _) h))
theorem filR_congr {α : Type} {t t' : α → R Bool} {f g : α → R D} : ∀ {xs : List α}, (∀ a ∈ xs, t a = t' a) → (∀ a ∈ xs, f a = g a) → filR t f xs = filR t' g xs
  | [], _, _ => rfl
  | x :: xs, h, k => by rw [filR, filR, h x (by simp), k x (by simp), filR_congr (fun a ha => h a (by simp [ha])) fun a ha => k a (by simp [ha])]
theorem filQ_congr {α : Type} {t t' : α → R Bool} {f g : α → R D} {xs ys : List α} (e : xs = ys) (h : ∀ a, a ∈ ys → t a = t' a) (k : ∀ a, a ∈ ys → f a = g a) : filQ t f xs = filQ t' g ys := by
  subst e
  unfold filQ
  rw [filR_congr h k]
theorem filR_map {α β : Type} (t : β → R Bool) (f : β → R D) (g : α → β) : ∀ xs : List α, filR t f (xs.map g) = filR (fun a => t (g a)) (fun a => f (g a)) xs
  | [] => rfl
  | x :: xs => by rw [List.map_cons, filR, filR, filR_map t f g xs]
@[simp] theorem filQ_map {α β : Type} (t : β → R Bool) (f : β → R D) (g : α → β) (xs : List α) : filQ t f (xs.map g) = filQ (fun a => t (g a)) (fun a => f (g a)) xs := by
  unfold filQ
  rw [filR_map]
@[simp] theorem filQ_nil {α : Type} (t : α → R Bool) (f : α → R D) : filQ t f [] = .ok [] := rfl
@[simp] theorem filQ_cons {α : Type} (t : α → R Bool) (f : α → R D) (a : α) (as : List α) : filQ t f (a :: as) = (filR t f (a :: as)).quiet >>= szQ := rfl
@[simp] theorem filR_nil {α : Type} (t : α → R Bool) (f : α → R D) : filR t f [] = .ok [] := rfl
@[simp] theorem filR_cons {α : Type} (t : α → R Bool) (f : α → R D) (a : α) (as : List α) : filR t f (a :: as) = (t a).yn ((f a).then fun y => (filR t f as).then fun ys => .ok (y :: ys)) (filR t f as) := rfl
/-- the same where the result is known under the condition alone -/
theorem filQ_ok' {α : Type} {t : α → R Bool} {f : α → R D} (p : α → Bool) (g : α → D) (xs : List α) (h1 : ∀ a ∈ xs, t a = .ok (p a)) (h2 : ∀ a ∈ xs, p a = true → f a = .ok (g a)) (h : xs.length ≤ 1000000) : filQ t f xs = .ok ((xs.filter p).map g) := by
  have e : ∀ ys : List α, (∀ a ∈ ys, a ∈ xs) → filR t f ys = .ok ((ys.filter p).map g) := by
    intro ys
    induction ys with
    | nil => intro _; rfl
    | cons y ys ih =>
      intro hy
      have hy1 := hy y (by simp)
      rw [filR, ih (fun a ha => hy a (by simp [ha])), h1 y hy1]
      cases q : p y
      · simp [q]
      · simp [q, h2 y hy1 q]
  unfold filQ
  rw [e xs fun _ h => h]
  exact if_pos (by rw [List.length_map]; exact sz_le (Nat.le_trans (List.length_filter_le _ _) h))
theorem mapQ_ok' {α : Type} {f : α → R D} (g : α → D) (xs : List α) (h2 : ∀ a ∈ xs, f a = .ok (g a)) (h : xs.length ≤ 1000000) : mapQ f xs = .ok (xs.map g) := by
  rw [mapQ_congr rfl h2, mapQ_ok g xs h]
theorem rangeD_map (n : Nat) : rangeD 0 n = (List.range n).map fun i : Nat => D.int (i : Int) := by simp [rangeD]
theorem rangeD_lo (lo n : Nat) : rangeD (lo : Int) n = (List.range' lo n).map fun i : Nat => D.int (i : Int) := by
  unfold rangeD
  rw [List.range'_eq_map_range, List.map_map]
  rfl
@[simp] theorem isNonD_non : isNonD .non = true := rfl
@[simp] theorem isNonD_int (i : Int) : isNonD (.int i) = false := rfl
@[simp] theorem isNonD_bl (i : Bool) : isNonD (.bl i) = false := rfl
@[simp] theorem isNonD_str (i : Str) : isNonD (.str i) = false := rfl
@[simp] theorem isNonD_tup (i : List D) : isNonD (.tup i) = false := rfl
@[simp] theorem isNonD_lst (i : List D) : isNonD (.lst i) = false := rfl
@[simp] theorem isNonD_exc (i : Str) : isNonD (.exc i) = false := rfl
/-! ### loops -/
def forL {α : Type} (cl : List Nat) (step : α → Sd → Out) : List α → Sd → Out
  | [], σ => .next (clr cl σ)
  | a :: as, σ => loopK cl (forL cl step as) (step a (clr cl σ))
theorem forD_L (cl : List Nat) (t : Tgt) (g : DS) : ∀ (ds : List D) (σ : Sd), forD cl t g ds σ = forL cl (fun d σ => (t.put d σ).run g) ds σ
  | [], σ => by rw [forD, forL]
  | d :: ds, σ => by
    have e : forD cl t g ds = forL cl (fun d σ => (t.put d σ).run g) ds := funext (forD_L cl t g ds)
    rw [forD, forL, e]
    cases t.put d (clr cl σ) <;> rfl
theorem forL_map {α β : Type} (cl : List Nat) (step : β → Sd → Out) (g : α → β) : ∀ (xs : List α) (σ : Sd), forL cl step (xs.map g) σ = forL cl (fun a => step (g a)) xs σ
  | [], σ => rfl
  | x :: xs, σ => by
    have e : forL cl step (xs.map g) = forL cl (fun a => step (g a)) xs := funext (forL_map cl step g xs)
    rw [List.map_cons, forL, forL, e]
theorem forL_nil {α : Type} (cl : List Nat) (step : α → Sd → Out) (σ : Sd) : forL cl step [] σ = .next (clr cl σ) := rfl
theorem forL_cons {α : Type} (cl : List Nat) (step : α → Sd → Out) (a : α) (as : List α) (σ : Sd) : forL cl step (a :: as) σ = loopK cl (forL cl step as) (step a (clr cl σ)) := rfl
@[simp] theorem loopK_next (cl : List Nat) (k : Sd → Out) (σ : Sd) : loopK cl k (.next σ) = k σ := rfl
@[simp] theorem loopK_cont (cl : List Nat) (k : Sd → Out) (σ : Sd) : loopK cl k (.cont σ) = k σ := rfl
@[simp] theorem loopK_brk (cl : List Nat) (k : Sd → Out) (σ : Sd) : loopK cl k (.brk σ) = .next (clr cl σ) := rfl
@[simp] theorem loopK_ret (cl : List Nat) (k : Sd → Out) (d : D) (σ : Sd) : loopK cl k (.ret d σ) = .ret d σ := rfl
@[simp] theorem loopK_exc (cl : List Nat) (k : Sd → Out) (c : Str) (σ : Sd) : loopK cl k (.exc c σ) = .exc c σ := rfl
@[simp] theorem loopK_ite {p : Prop} [Decidable p] (cl : List Nat) (k : Sd → Out) (a b : Out) : loopK cl k (if p then a else b) = if p then loopK cl k a else loopK cl k b := by split <;> rfl
/-- the next turn's state -/
def Nx (cl : List Nat) (S : Sd) : Out → Prop
  | .next σ => clr cl σ = S
  | .cont σ => clr cl σ = S
  | _ => False
@[simp] theorem Nx_next (cl : List Nat) (S σ : Sd) : Nx cl S (.next σ) ↔ clr cl σ = S := Iff.rfl
@[simp] theorem Nx_cont (cl : List Nat) (S σ : Sd) : Nx cl S (.cont σ) ↔ clr cl σ = S := Iff.rfl
@[simp] theorem Nx_ret (cl : List Nat) (S σ : Sd) (d : D) : Nx cl S (.ret d σ) ↔ False := Iff.rfl
@[simp] theorem Nx_stuck (cl : List Nat) (S : Sd) : Nx cl S .stuck ↔ False := Iff.rfl
@[simp] theorem Nx_exc (cl : List Nat) (S σ : Sd) (c : Str) : Nx cl S (.exc c σ) ↔ False := Iff.rfl
theorem Nx.loop {cl : List Nat} {S : Sd} {o : Out} (h : Nx cl S o) (k : Sd → Out) (hk : ∀ σ, k σ = k (clr cl σ)) : loopK cl k o = k S := by
  cases o <;> first | exact h.elim | skip
  · rename_i σ
    have e : clr cl σ = S := h
    rw [loopK_next, hk, e]
  · rename_i σ
    have e : clr cl σ = S := h
    rw [loopK_cont, hk, e]
theorem clr_len : ∀ (cl : List Nat) (σ : Sd), (clr cl σ).length = σ.length
  | [], σ => rfl
  | i :: is, σ => by rw [clr_cons, clr_len is]; simp
theorem clr_get : ∀ (cl : List Nat) (σ : Sd) (j : Nat), (clr cl σ)[j]? = if j ∈ cl ∧ j < σ.length then some none else σ[j]?
  | [], σ, j => by simp
  | i :: is, σ, j => by
    rw [clr_cons, clr_get is, List.length_set]
    by_cases h : j ∈ is
    · by_cases l : j < σ.length <;> simp [h, l, List.getElem?_set]
    · by_cases e : i = j
      · subst e
        by_cases l : i < σ.length <;> simp [h, l, List.getElem?_set]
      · simp [h, e, List.getElem?_set, Ne.symm e]
theorem clr_idem (cl : List Nat) (σ : Sd) : clr cl (clr cl σ) = clr cl σ := by
  apply List.ext_getElem?
  intro j
  rw [clr_get, clr_len]
  split
  · rename_i h
    rw [clr_get, if_pos h]
  · rfl
theorem forL_clr {α : Type} (cl : List Nat) (step : α → Sd → Out) (xs : List α) (σ : Sd) : forL cl step xs σ = forL cl step xs (clr cl σ) := by
  cases xs with
  | nil => rw [forL_nil, forL_nil, clr_idem]
  | cons x xs => rw [forL_cons, forL_cons, clr_idem]
/-- with what holds of the state and of the list that is left -/
theorem forL_inv {α β : Type} {cl : List Nat} {step : α → Sd → Out} (S : β → Sd) (F : β → α → β) (I : β → Prop) : ∀ (xs : List α) (b : β) (σ : Sd), clr cl σ = S b → I b → (∀ a ∈ xs, ∀ b, I b → Nx cl (S (F b a)) (step a (S b)) ∧ I (F b a)) → forL cl step xs σ = .next (S (xs.foldl F b)) ∧ I (xs.foldl F b)
  | [], b, σ, e, i, _ => ⟨by rw [forL_nil, e]; rfl, i⟩
  | x :: xs, b, σ, e, i, h => by
    obtain ⟨h1, h2⟩ := h x (by simp) b i
    have cS : clr cl (S (F b x)) = S (F b x) := by
      cases q : step x (S b) <;> rw [q] at h1 <;> first | exact h1.elim | skip
      · have z := (Nx_next _ _ _).mp h1
        rw [← z, clr_idem]
      · have z := (Nx_cont _ _ _).mp h1
        rw [← z, clr_idem]
    rw [forL_cons, e, h1.loop _ (forL_clr cl step xs)]
    exact forL_inv S F I xs (F b x) _ cS h2 fun a ha => h a (by simp [ha])
theorem forL_fold {α β : Type} {cl : List Nat} {step : α → Sd → Out} (S : β → Sd) (F : β → α → β) (b : β) {xs : List α} {σ : Sd} (e : clr cl σ = S b) (h : ∀ a ∈ xs, ∀ b, Nx cl (S (F b a)) (step a (S b))) : forL cl step xs σ = .next (S (xs.foldl F b)) :=
  (forL_inv S F (fun _ => True) xs b σ e trivial fun a ha b _ => ⟨h a ha b, trivial⟩).1
theorem forL_const {α : Type} {cl : List Nat} {step : α → Sd → Out} {xs : List α} {σ : Sd} (e : clr cl σ = σ) (h : ∀ a ∈ xs, Nx cl σ (step a σ)) : forL cl step xs σ = .next σ :=
  (forL_inv (fun _ : Unit => σ) (fun b _ => b) (fun _ => True) xs () σ e trivial fun a ha b _ => ⟨h a ha, trivial⟩).1
/-- a list that grows -/
theorem forL_flat {α : Type} {cl : List Nat} {step : α → Sd → Out} (S : List D → Sd) (f : α → List D) (acc : List D) {xs : List α} {σ : Sd} (e : clr cl σ = S acc) (hl : (acc ++ xs.flatMap f).length ≤ 1000000)
    (h : ∀ a ∈ xs, ∀ acc : List D, acc.length + (f a).length ≤ 1000000 → Nx cl (S (acc ++ f a)) (step a (S acc))) : forL cl step xs σ = .next (S (acc ++ xs.flatMap f)) := by
  induction xs generalizing acc σ with
  | nil => rw [forL_nil, e, List.flatMap_nil, List.append_nil]
  | cons x xs ih =>
    have hl' : acc.length + (f x).length ≤ 1000000 := by
      simp only [List.flatMap_cons, List.length_append] at hl
      omega
    have h1 := h x (by simp) acc hl'
    have cS : clr cl (S (acc ++ f x)) = S (acc ++ f x) := by
      cases q : step x (S acc) <;> rw [q] at h1 <;> first | exact h1.elim | skip
      · have z := (Nx_next _ _ _).mp h1
        rw [← z, clr_idem]
      · have z := (Nx_cont _ _ _).mp h1
        rw [← z, clr_idem]
    have e2 : acc ++ (x :: xs).flatMap f = (acc ++ f x) ++ xs.flatMap f := by simp [List.flatMap_cons]
    rw [forL_cons, e, h1.loop _ (forL_clr cl step xs), e2]
    exact ih (acc ++ f x) cS (by rw [← e2]; exact hl) fun a ha => h a (by simp [ha])
/-- stops at the first turn that ends -/
theorem forL_stop {α : Type} {cl : List Nat} {step : α → Sd → Out} {S : Sd} (p : α → Bool) (d : D) : ∀ {xs : List α} {σ : Sd}, clr cl σ = S → (∀ a ∈ xs, p a = true → Nx cl S (step a S)) → (∀ a ∈ xs, p a = false → ∃ τ, step a S = .ret d τ) →
    (xs.all p = true ∧ forL cl step xs σ = .next S) ∨ (xs.all p = false ∧ ∃ τ, forL cl step xs σ = .ret d τ)
  | [], σ, e, _, _ => .inl ⟨rfl, by rw [forL_nil, e]⟩
  | x :: xs, σ, e, h, k => by
    cases q : p x
    · obtain ⟨τ, hτ⟩ := k x (by simp) q
      exact .inr ⟨by simp [q], τ, by rw [forL_cons, e, hτ, loopK_ret]⟩
    · have h1 := h x (by simp) q
      have cS : clr cl S = S := by rw [← e, clr_idem]
      have ih := forL_stop (xs := xs) p d cS (fun a ha => h a (by simp [ha])) fun a ha => k a (by simp [ha])
      rw [forL_cons, e, h1.loop _ (forL_clr cl step xs)]
      simpa [q] using ih
theorem iRange2_n (fa fb : DE) (σ : Sd) (a b : Nat) (ha : fa σ = .ok (.int a)) (hb : fb σ = .ok (.int b)) (h1 : a ≤ 1000000) (h2 : b ≤ 1000000) : iRange2 fa fb σ = .ok ((List.range' a (b - a)).map fun i : Nat => D.int (i : Int)) := by
  unfold iRange2
  rw [ha, hb, R.ok_bind, R.ok_bind]
  have e : ((b : Int) - (a : Int)).toNat = b - a := by omega
  rw [← rangeD_lo, ← e]
  exact if_pos (by omega)
end FF
set_option maxHeartbeats 4000000
/-! pictures by what they show -/
namespace FF
open PySem PySem.Spec PyProof.Rows L2
theorem shf_shf (f : Fn2) (a b c d : Nat) : shf (shf f a b) c d = shf f (a + c) (b + d) := by
  funext x y
  unfold shf
  have e1 : x + c + a = x + (a + c) := by omega
  have e2 : y + d + b = y + (b + d) := by omega
  rw [e1, e2]
theorem four4_w {a b c d : Tr} {i : Int} (h : four4 a b c d = .w i) : a = .w i ∧ b = .w i ∧ c = .w i ∧ d = .w i := by
  unfold four4 at h
  split at h
  · rename_i j
    split at h
    · rename_i q
      cases h
      exact ⟨rfl, q⟩
    · cases h
  · cases h
theorem least_w : ∀ {s : Nat} {f : Fn2} {i : Int}, leastF s f = .w i → ∀ x y, x < 2 ^ s → y < 2 ^ s → f x y = i
  | 0, f, i, h, x, y, hx, hy => by
    have hx : x = 0 := by simp at hx; omega
    have hy : y = 0 := by simp at hy; omega
    subst hx hy
    simpa [leastF] using h
  | s + 1, f, i, h, x, y, hx, hy => by
    have p : (2 : Nat) ^ (s + 1) = 2 ^ s + 2 ^ s := by rw [Nat.pow_succ]; omega
    unfold leastF at h
    obtain ⟨h1, h2, h3, h4⟩ := four4_w h
    by_cases cx : x < 2 ^ s <;> by_cases cy : y < 2 ^ s
    · exact least_w h1 x y cx cy
    · have := least_w h3 x (y - 2 ^ s) cx (by omega)
      have e : y - 2 ^ s + 2 ^ s = y := by omega
      simpa [shf, e] using this
    · have := least_w h2 (x - 2 ^ s) y (by omega) cy
      have e : x - 2 ^ s + 2 ^ s = x := by omega
      simpa [shf, e] using this
    · have := least_w h4 (x - 2 ^ s) (y - 2 ^ s) (by omega) (by omega)
      have e : x - 2 ^ s + 2 ^ s = x := by omega
      have e2 : y - 2 ^ s + 2 ^ s = y := by omega
      simpa [shf, e, e2] using this
theorem least_same {s : Nat} {f : Fn2} {i : Int} (h : ∀ x y, x < 2 ^ s → y < 2 ^ s → f x y = i) : leastF s f = .w i := by
  rw [leastF_congr (g := fun _ _ => i) h, leastF_const]
theorem four4_q (a b c d : Tr) : four4 a b c d = .q a b c d ∨ ∃ i, four4 a b c d = .w i := by
  unfold four4
  split
  · split
    · exact .inr ⟨_, rfl⟩
    · exact .inl rfl
  · exact .inl rfl
/-- the picture in its least form that shows f -/
def picF (s : Nat) (f : Fn2) : D := encPic s (leastF s f)
structure Pic (s : Nat) (d : D) (f : Fn2) : Prop where
  lt : s < 4
  inn : inF s f
  tr : ∃ t, d = encPic s t ∧ t.ok s ∧ Eqf s (atT s t) f
theorem Eqf.refl (s : Nat) (f : Fn2) : Eqf s f f := fun _ _ _ _ => rfl
theorem Eqf.symm {s : Nat} {f g : Fn2} (h : Eqf s f g) : Eqf s g f := fun x y hx hy => (h x y hx hy).symm
theorem Eqf.trans {s : Nat} {f g k : Fn2} (h : Eqf s f g) (h2 : Eqf s g k) : Eqf s f k := fun x y hx hy => (h x y hx hy).trans (h2 x y hx hy)
theorem inF_congr {s : Nat} {f g : Fn2} (h : Eqf s f g) (hf : inF s f) : inF s g := fun x y hx hy => by rw [← h x y hx hy]; exact hf x y hx hy
theorem Pic.of {s : Nat} {t : Tr} (hs : s < 4) (ht : t.ok s) : Pic s (encPic s t) (atT s t) := ⟨hs, at_in ht, t, rfl, ht, .refl _ _⟩
theorem Pic.F {s : Nat} {f : Fn2} (hs : s < 4) (hf : inF s f) : Pic s (picF s f) f := ⟨hs, hf, leastF s f, rfl, least_ok hf, at_least hf⟩
theorem Pic.congr {s : Nat} {d : D} {f g : Fn2} (p : Pic s d f) (h : Eqf s f g) : Pic s d g := by
  obtain ⟨t, e, h1, h2⟩ := p.tr
  exact ⟨p.lt, inF_congr h p.inn, t, e, h1, h2.trans h⟩
theorem picF_congr {s : Nat} {f g : Fn2} (h : Eqf s f g) : picF s f = picF s g := by
  unfold picF
  rw [leastF_congr h]
theorem least_inj {s : Nat} {f g : Fn2} (hf : inF s f) (hg : inF s g) (h : leastF s f = leastF s g) : Eqf s f g := by
  have h1 := at_least hf
  rw [h] at h1
  exact h1.symm.trans (at_least hg)
theorem picF_iff {s : Nat} {f g : Fn2} (hf : inF s f) (hg : inF s g) : picF s f = picF s g ↔ Eqf s f g :=
  ⟨fun h => least_inj hf hg (encPic_inj h).2, picF_congr⟩
theorem picF_iff2 {s s' : Nat} {f g : Fn2} (hf : inF s f) (hg : inF s' g) : picF s f = picF s' g ↔ s = s' ∧ Eqf s f g := by
  constructor
  · intro h
    have e := (encPic_inj h).1
    subst e
    exact ⟨rfl, (picF_iff hf hg).mp h⟩
  · rintro ⟨rfl, h⟩
    exact picF_congr h
theorem lean_picF {s : Nat} {t : Tr} (ht : t.ok s) : encPic s (leanT t) = picF s (atT s t) := by
  unfold picF
  rw [lean_least ht]
@[simp] theorem encPic_own' (s : Nat) (t : Tr) : (encPic s t).isOwn = false := rfl
@[simp] theorem picF_own (s : Nat) (f : Fn2) : (picF s f).isOwn = false := rfl
@[simp] theorem encRows_own' (r : List (List Int)) : (encRows r).isOwn = false := rfl
@[simp] theorem enc_own' (t : Tr) : (enc t).isOwn = false := enc_own t
@[simp] theorem encPic_0 (s : Nat) (t : Tr) : ixD (encPic s t) (.int 0) = .ok (.int (s : Int)) := rfl
@[simp] theorem encPic_1 (s : Nat) (t : Tr) : ixD (encPic s t) (.int 1) = .ok (enc t) := rfl
@[simp] theorem picF_0 (s : Nat) (f : Fn2) : ixD (picF s f) (.int 0) = .ok (.int (s : Int)) := rfl
@[simp] theorem picF_1 (s : Nat) (f : Fn2) : ixD (picF s f) (.int 1) = .ok (enc (leastF s f)) := rfl
theorem Pic.own {s : Nat} {d : D} {f : Fn2} (p : Pic s d f) : d.isOwn = false := by
  obtain ⟨t, rfl, _⟩ := p.tr
  rfl
theorem Pic.ix0 {s : Nat} {d : D} {f : Fn2} (p : Pic s d f) : ixD d (.int 0) = .ok (.int (s : Int)) := by
  obtain ⟨t, rfl, _⟩ := p.tr
  rfl
theorem Pic.clean {s : Nat} {d : D} {f : Fn2} (p : Pic s d f) : clean d = true := by
  obtain ⟨t, rfl, _⟩ := p.tr
  exact encPic_clean _ _
theorem picF_clean (s : Nat) (f : Fn2) : clean (picF s f) = true := encPic_clean _ _
theorem Pic.dpt {s : Nat} {d : D} {f : Fn2} (p : Pic s d f) : dpt d ≤ 5 := by
  obtain ⟨t, rfl, h, _⟩ := p.tr
  have h1 := enc_dpt h
  have h2 := p.lt
  simp [encPic, FF.dpt, dptL]
  omega
theorem leanT_dpt {s : Nat} {f : Fn2} : FF.dpt (enc (leastF s f)) ≤ s := by
  induction s generalizing f with
  | zero => simp [leastF, enc, FF.dpt]
  | succ s ih =>
    rcases four4_q (leastF s f) (leastF s (shf f (2 ^ s) 0)) (leastF s (shf f 0 (2 ^ s))) (leastF s (shf f (2 ^ s) (2 ^ s))) with h | ⟨i, h⟩
    · rw [leastF, h]
      have h1 := ih (f := f)
      have h2 := ih (f := shf f (2 ^ s) 0)
      have h3 := ih (f := shf f 0 (2 ^ s))
      have h4 := ih (f := shf f (2 ^ s) (2 ^ s))
      simp [enc, FF.dpt, dptL]
      omega
    · rw [leastF, h]
      simp [enc, FF.dpt]
theorem picF_dpt {s : Nat} {f : Fn2} (hs : s < 4) : dpt (picF s f) ≤ 5 := by
  have h1 := leanT_dpt (s := s) (f := f)
  simp [picF, encPic, FF.dpt, dptL]
  omega
/-! comparisons -/
theorem eqD_clean {x y : D} (hx : clean x = true) (hy : clean y = true) (hd : dpt x ≤ 100) : eqD x y = .ok (.bl (@decide (x = y) (Classical.propDecidable _))) := by
  rw [eqD_ok (clean_data _ hx) (clean_data _ hy) hd]
  have := pyEq_clean hx hy
  cases q : pyEq x y
  · have n : ¬ (x = y) := fun e => by rw [this.mpr e] at q; cases q
    simp [n]
  · simp [this.mp q]
theorem neD_clean {x y : D} (hx : clean x = true) (hy : clean y = true) (hd : dpt x ≤ 100) : neD x y = .ok (.bl (!@decide (x = y) (Classical.propDecidable _))) := by
  rw [neD_ok (clean_data _ hx) (clean_data _ hy) hd]
  have := pyEq_clean hx hy
  cases q : pyEq x y
  · have n : ¬ (x = y) := fun e => by rw [this.mpr e] at q; cases q
    simp [n]
  · simp [this.mp q]
theorem neD_same {x : D} (hx : clean x = true) (hd : dpt x ≤ 100) : neD x x = .ok (.bl false) := by rw [neD_clean hx hx hd]; simp
theorem eqD_same {x : D} (hx : clean x = true) (hd : dpt x ≤ 100) : eqD x x = .ok (.bl true) := by rw [eqD_clean hx hx hd]; simp
theorem neD_pic {s : Nat} {f g : Fn2} (hs : s < 4) (h : Eqf s f g) : neD (picF s f) (picF s g) = .ok (.bl false) := by
  rw [picF_congr h]
  exact neD_same (picF_clean _ _) (Nat.le_trans (picF_dpt hs) (by omega))
theorem eqD_pic {s : Nat} {f g : Fn2} (hs : s < 4) (h : Eqf s f g) : eqD (picF s f) (picF s g) = .ok (.bl true) := by
  rw [picF_congr h]
  exact eqD_same (picF_clean _ _) (Nat.le_trans (picF_dpt hs) (by omega))
/-! quarters -/
def sub (s : Nat) (f : Fn2) (k : Nat) : Fn2 := shf f (if k % 2 = 0 then 0 else 2 ^ s) (if k / 2 = 0 then 0 else 2 ^ s)
theorem sub0 (s : Nat) (f : Fn2) : sub s f 0 = f := rfl
theorem least_succ (s : Nat) (f : Fn2) : leastF (s + 1) f = four4 (leastF s (sub s f 0)) (leastF s (sub s f 1)) (leastF s (sub s f 2)) (leastF s (sub s f 3)) := rfl
theorem qt_four4 {a b c d : Tr} : qt (four4 a b c d) 0 = a ∧ qt (four4 a b c d) 1 = b ∧ qt (four4 a b c d) 2 = c ∧ qt (four4 a b c d) 3 = d := by
  rcases four4_q a b c d with h | ⟨i, h⟩
  · rw [h]; exact ⟨rfl, rfl, rfl, rfl⟩
  · obtain ⟨rfl, rfl, rfl, rfl⟩ := four4_w h
    rw [h]; exact ⟨rfl, rfl, rfl, rfl⟩
theorem qt_least (s : Nat) (f : Fn2) : ∀ k, k < 4 → qt (leastF (s + 1) f) k = leastF s (sub s f k) := by
  intro k hk
  rw [least_succ]
  obtain ⟨h0, h1, h2, h3⟩ := qt_four4 (a := leastF s (sub s f 0)) (b := leastF s (sub s f 1)) (c := leastF s (sub s f 2)) (d := leastF s (sub s f 3))
  match k, hk with
  | 0, _ => exact h0
  | 1, _ => exact h1
  | 2, _ => exact h2
  | 3, _ => exact h3
theorem inF_sub {s : Nat} {f : Fn2} (h : inF (s + 1) f) (k : Nat) : inF s (sub s f k) := by
  have p : (2 : Nat) ^ (s + 1) = 2 ^ s + 2 ^ s := by rw [Nat.pow_succ]; omega
  intro x y hx hy
  unfold sub shf
  exact h _ _ (by split <;> omega) (by split <;> omega)
theorem Eqf_sub {s : Nat} {f g : Fn2} (h : Eqf (s + 1) f g) (k : Nat) : Eqf s (sub s f k) (sub s g k) := by
  have p : (2 : Nat) ^ (s + 1) = 2 ^ s + 2 ^ s := by rw [Nat.pow_succ]; omega
  intro x y hx hy
  unfold sub shf
  exact h _ _ (by split <;> omega) (by split <;> omega)
/-- what four quarters show together -/
def glue (s : Nat) (f : Nat → Fn2) : Fn2 := fun x y => f ((if x < 2 ^ s then 0 else 1) + (if y < 2 ^ s then 0 else 2)) (if x < 2 ^ s then x else x - 2 ^ s) (if y < 2 ^ s then y else y - 2 ^ s)
theorem at_glue (s : Nat) (t : Tr) : atT (s + 1) t = glue s fun k => atT s (qt t k) := rfl
theorem sub_glue {s : Nat} {f : Nat → Fn2} {k : Nat} (hk : k < 4) : Eqf s (sub s (glue s f) k) (f k) := by
  intro x y hx hy
  have n1 : ¬ (x + 2 ^ s < 2 ^ s) := by omega
  have n2 : ¬ (y + 2 ^ s < 2 ^ s) := by omega
  match k, hk with
  | 0, _ => simp [sub, shf, glue, hx, hy]
  | 1, _ => simp [sub, shf, glue, n1, hx, hy]
  | 2, _ => simp [sub, shf, glue, n2, hx, hy]
  | 3, _ => simp [sub, shf, glue, n1, n2, hx, hy]
theorem glue_sub {s : Nat} (f : Fn2) : Eqf (s + 1) (glue s (sub s f)) f := by
  have p : (2 : Nat) ^ (s + 1) = 2 ^ s + 2 ^ s := by rw [Nat.pow_succ]; omega
  intro x y hx hy
  by_cases cx : x < 2 ^ s <;> by_cases cy : y < 2 ^ s
  · simp [glue, sub, shf, cx, cy]
  · have e : y - 2 ^ s + 2 ^ s = y := by omega
    simp [glue, sub, shf, cx, cy, e]
  · have e : x - 2 ^ s + 2 ^ s = x := by omega
    simp [glue, sub, shf, cx, cy, e]
  · have e : y - 2 ^ s + 2 ^ s = y := by omega
    have e2 : x - 2 ^ s + 2 ^ s = x := by omega
    simp [glue, sub, shf, cx, cy, e, e2]
theorem Eqf_of_sub {s : Nat} {f g : Fn2} (h : ∀ k, k < 4 → Eqf s (sub s f k) (sub s g k)) : Eqf (s + 1) f g := by
  refine (glue_sub f).symm.trans (Eqf.trans ?_ (glue_sub g))
  intro x y hx hy
  have p : (2 : Nat) ^ (s + 1) = 2 ^ s + 2 ^ s := by rw [Nat.pow_succ]; omega
  unfold glue
  exact h _ (by split <;> split <;> omega) _ _ (by split <;> omega) (by split <;> omega)
theorem four_glue {s : Nat} (f : Nat → Fn2) : four4 (leastF s (f 0)) (leastF s (f 1)) (leastF s (f 2)) (leastF s (f 3)) = leastF (s + 1) (glue s f) := by
  rw [least_succ, leastF_congr (sub_glue (f := f) (show 0 < 4 by omega)), leastF_congr (sub_glue (f := f) (show 1 < 4 by omega)), leastF_congr (sub_glue (f := f) (show 2 < 4 by omega)), leastF_congr (sub_glue (f := f) (show 3 < 4 by omega))]
theorem four_least {s : Nat} {f : Nat → Fn2} {g : Fn2} (h : ∀ k, k < 4 → Eqf s (f k) (sub s g k)) : four4 (leastF s (f 0)) (leastF s (f 1)) (leastF s (f 2)) (leastF s (f 3)) = leastF (s + 1) g := by
  rw [least_succ, leastF_congr (h 0 (by omega)), leastF_congr (h 1 (by omega)), leastF_congr (h 2 (by omega)), leastF_congr (h 3 (by omega))]
theorem inF_glue {s : Nat} {f : Nat → Fn2} (h : ∀ k, k < 4 → inF s (f k)) : inF (s + 1) (glue s f) := by
  have p : (2 : Nat) ^ (s + 1) = 2 ^ s + 2 ^ s := by rw [Nat.pow_succ]; omega
  intro x y hx hy
  unfold glue
  exact h _ (by split <;> split <;> omega) _ _ (by split <;> omega) (by split <;> omega)
theorem pow_lt4 {s : Nat} (h : s < 4) : 2 ^ s ≤ 8 ∧ 1 ≤ 2 ^ s := by
  rcases s with _ | _ | _ | _ | s <;> first | (constructor <;> decide) | omega
/-- the parts of a worth show it -/
theorem leaf_least {s : Nat} {i : Int} {f : Fn2} (h : leastF s f = .w i) : Eqf s f fun _ _ => i := fun x y hx hy => least_w h x y hx hy
end FF
set_option maxHeartbeats 4000000
/-! loops with what holds of the state -/
namespace FF
open PySem PySem.Spec PyProof.Rows L2
def Nxp (cl : List Nat) (I : Sd → Prop) : Out → Prop
  | .next σ => I (clr cl σ)
  | .cont σ => I (clr cl σ)
  | _ => False
@[simp] theorem Nxp_next (cl : List Nat) (I : Sd → Prop) (σ : Sd) : Nxp cl I (.next σ) ↔ I (clr cl σ) := Iff.rfl
@[simp] theorem Nxp_cont (cl : List Nat) (I : Sd → Prop) (σ : Sd) : Nxp cl I (.cont σ) ↔ I (clr cl σ) := Iff.rfl
@[simp] theorem Nxp_ret (cl : List Nat) (I : Sd → Prop) (σ : Sd) (d : D) : Nxp cl I (.ret d σ) ↔ False := Iff.rfl
@[simp] theorem Nxp_exc (cl : List Nat) (I : Sd → Prop) (σ : Sd) (c : Str) : Nxp cl I (.exc c σ) ↔ False := Iff.rfl
@[simp] theorem Nxp_stuck (cl : List Nat) (I : Sd → Prop) : Nxp cl I .stuck ↔ False := Iff.rfl
theorem Nxp.out {cl : List Nat} {I : Sd → Prop} {o : Out} (h : Nxp cl I o) (k : Sd → Out) : ∃ τ, I (clr cl τ) ∧ loopK cl k o = k τ := by
  cases o <;> first | exact h.elim | exact ⟨_, h, rfl⟩
theorem forL_pre {α : Type} {cl : List Nat} {step : α → Sd → Out} (I : List α → Sd → Prop) {xs : List α} : ∀ (post pre : List α) (σ : Sd), xs = pre ++ post → I pre (clr cl σ) →
    (∀ pre a post, xs = pre ++ a :: post → ∀ τ, I pre τ → Nxp cl (I (pre ++ [a])) (step a τ)) → ∃ τ, I xs τ ∧ forL cl step post σ = .next τ
  | [], pre, σ, e, i, _ => ⟨clr cl σ, by rw [e, List.append_nil]; exact i, rfl⟩
  | a :: post, pre, σ, e, i, h => by
    obtain ⟨τ, h1, h2⟩ := (h pre a post e _ i).out (forL cl step post)
    rw [forL_cons, h2]
    exact forL_pre I post (pre ++ [a]) τ (by rw [e]; simp) h1 h
theorem forL_goalL {α : Type} {P : Out → Prop} {cl : List Nat} {step : α → Sd → Out} {xs : List α} {σ : Sd} (I : List α → Sd → Prop) (h0 : I [] (clr cl σ)) (h : ∀ pre a post, xs = pre ++ a :: post → ∀ τ, I pre τ → Nxp cl (I (pre ++ [a])) (step a τ))
    (hk : ∀ τ, I xs τ → P (.next τ)) : P (forL cl step xs σ) := by
  obtain ⟨τ, h1, h2⟩ := forL_pre I xs [] σ rfl h0 h
  rw [h2]
  exact hk τ h1
theorem forL_goalC {α : Type} {P : Out → Prop} {cl : List Nat} {step : α → Sd → Out} {xs : List α} {σ : Sd} (I : Sd → Prop) (h0 : I (clr cl σ)) (h : ∀ a ∈ xs, ∀ τ, I τ → Nxp cl I (step a τ)) (hk : ∀ τ, I τ → P (.next τ)) : P (forL cl step xs σ) :=
  forL_goalL (fun _ => I) h0 (fun pre a post e τ i => h a (by rw [e]; simp) τ i) hk
theorem forL_goal {P : Out → Prop} {cl : List Nat} {step : Nat → Sd → Out} {n : Nat} {σ : Sd} (I : Nat → Sd → Prop) (h0 : I 0 (clr cl σ)) (h : ∀ k, k < n → ∀ τ, I k τ → Nxp cl (I (k + 1)) (step k τ)) (hk : ∀ τ, I n τ → P (.next τ)) : P (forL cl step (List.range n) σ) := by
  refine forL_goalL (fun pre => I pre.length) h0 (fun pre a post e τ i => ?_) fun τ i => hk τ (by rw [List.length_range] at i; exact i)
  have e1 : (List.range n)[pre.length]? = some a := by rw [e]; simp
  obtain ⟨h1, h2⟩ := List.getElem?_eq_some_iff.mp e1
  rw [List.length_range] at h1
  rw [List.getElem_range] at h2
  subst h2
  rw [List.length_append]
  exact h _ h1 τ i
/-- the state does not change -/
theorem forL_goalS {α : Type} {P : Out → Prop} {cl : List Nat} {step : α → Sd → Out} {xs : List α} {σ : Sd} (h0 : clr cl σ = σ) (h : ∀ a ∈ xs, Nxp cl (fun τ => τ = σ) (step a σ)) (hk : P (.next σ)) : P (forL cl step xs σ) :=
  forL_goalC (fun τ => τ = σ) h0 (fun a ha τ e => by rw [e]; exact h a ha) fun τ e => by rw [e]; exact hk
/-- one slot changes -/
theorem forL_goal1 {P : Out → Prop} {cl : List Nat} {step : Nat → Sd → Out} {n : Nat} {σ : Sd} (i : Nat) (d0 : D) (I : Nat → D → Prop) (hs : σ[i]? = some (some d0)) (h0 : clr cl σ = σ) (h1 : I 0 d0)
    (h : ∀ k, k < n → ∀ d, I k d → Nxp cl (fun τ => ∃ d', τ = σ.set i (some d') ∧ I (k + 1) d') (step k (σ.set i (some d)))) (hk : ∀ d, I n d → P (.next (σ.set i (some d)))) : P (forL cl step (List.range n) σ) := by
  refine forL_goal (fun k τ => ∃ d', τ = σ.set i (some d') ∧ I k d') ⟨d0, by rw [h0, set_self_opt hs], h1⟩ (fun k hk τ ⟨d, e, i⟩ => by rw [e]; exact h k hk d i) fun τ ⟨d, e, i⟩ => by rw [e]; exact hk d i
theorem forL_goal1L {α : Type} {P : Out → Prop} {cl : List Nat} {step : α → Sd → Out} {xs : List α} {σ : Sd} (i : Nat) (d0 : D) (I : List α → D → Prop) (hs : σ[i]? = some (some d0)) (h0 : clr cl σ = σ) (h1 : I [] d0)
    (h : ∀ pre a post, xs = pre ++ a :: post → ∀ d, I pre d → Nxp cl (fun τ => ∃ d', τ = σ.set i (some d') ∧ I (pre ++ [a]) d') (step a (σ.set i (some d)))) (hk : ∀ d, I xs d → P (.next (σ.set i (some d)))) : P (forL cl step xs σ) := by
  refine forL_goalL (fun k τ => ∃ d', τ = σ.set i (some d') ∧ I k d') ⟨d0, by rw [h0, set_self_opt hs], h1⟩ (fun pre a post e0 τ ⟨d, e, i⟩ => by rw [e]; exact h pre a post e0 d i) fun τ ⟨d, e, i⟩ => by rw [e]; exact hk d i
def rg2K : D → D → R (List D)
  | .int i, .int j => if i.natAbs < 4611686018427387904 ∧ j.natAbs < 4611686018427387904 then .ok (rangeD i (j - i).toNat) else .stuck
  | _, _ => .stuck
@[simp] theorem iRange2_v (fa fb : DE) (σ : Sd) : iRange2 fa fb σ = (fa σ >>= fun x => fb σ >>= fun y => rg2K x y) := by
  unfold iRange2
  refine congrArg _ (funext fun d => congrArg _ (funext fun e => ?_))
  cases d <;> first | rfl | (cases e <;> rfl)
theorem rg2K_i (i j : Int) (h1 : -1000000 ≤ i) (h2 : i ≤ 1000000) (h3 : -1000000 ≤ j) (h4 : j ≤ 1000000) : rg2K (.int i) (.int j) = .ok (rangeD i (j - i).toNat) := if_pos (by omega)
theorem rangeD_def (lo : Int) (n : Nat) : rangeD lo n = (List.range n).map fun k : Nat => D.int (lo + (k : Int)) := rfl
end FF
set_option maxHeartbeats 4000000
/-! what the later denotations compute -/
namespace FF
open PySem PySem.Spec PyProof.Rows L2
@[simp] theorem eRevL_v (f : DE) (σ : Sd) : eRevL f σ = (f σ >>= rvK) := rfl
@[simp] theorem rvK_l (xs : List D) : rvK (.lst xs) = .ok (.lst xs.reverse) := rfl
@[simp] theorem eListRg_v (f : DE) (σ : Sd) : eListRg f σ = (f σ >>= lrK) := rfl
theorem lrK_n (n : Nat) (h : n ≤ 1000000) : lrK (.int (n : Int)) = .ok (.lst (rangeD 0 n)) := if_pos (by omega)
theorem lrK_i (n : Int) (h0 : 0 ≤ n) (h : n ≤ 1000000) : lrK (.int n) = .ok (.lst (rangeD 0 n.toNat)) := if_pos (by omega)
/-! owned lists of lists -/
def map2R {α : Type} (f : α → R (List D)) : List α → R (List (List D))
  | [] => .ok []
  | a :: as => (f a).then fun y => (map2R f as).then fun ys => .ok (y :: ys)
def sz2 (ys : List (List D)) : R (List (List D)) := if ys.length ≤ sizeLine then .ok ys else .stuck
def map2Q {α : Type} (f : α → R (List D)) (xs : List α) : R (List (List D)) := (map2R f xs).quiet >>= sz2
theorem lc2D_map2R (own : List Nat) (t : Tgt) (te : Sd → R (List D)) (σ : Sd) : ∀ ds : List D, lc2D own t te σ ds = map2R (fun d => (t.put d (clrO own σ)).then te) ds
  | [] => rfl
  | d :: ds => by
    rw [lc2D, map2R, lc2D_map2R own t te σ ds]
    cases t.put d (clrO own σ) <;> rfl
theorem lc2All_v (own : List Nat) (t : Tgt) (te : Sd → R (List D)) (fi : Sd → R (List D)) (σ : Sd) : lc2All own t te fi σ = (fi σ >>= map2Q fun d => (t.put d (clrO own σ)).then te) := by
  unfold lc2All map2Q
  refine congrArg _ (funext fun ds => ?_)
  rw [lc2D_map2R] <;> rfl
theorem map2R_ok {α : Type} (g : α → List D) : ∀ xs : List α, map2R (fun a => R.ok (g a)) xs = .ok (xs.map g)
  | [] => rfl
  | x :: xs => by rw [map2R, map2R_ok g xs]; rfl
@[simp] theorem map2Q_ok {α : Type} (g : α → List D) (xs : List α) (h : xs.length ≤ 1000000) : map2Q (fun a => R.ok (g a)) xs = .ok (xs.map g) := by
  unfold map2Q
  rw [map2R_ok]
  exact if_pos (by rw [List.length_map]; exact sz_le h)
theorem map2R_map {α β : Type} (f : β → R (List D)) (g : α → β) : ∀ xs : List α, map2R f (xs.map g) = map2R (fun a => f (g a)) xs
  | [] => rfl
  | x :: xs => by rw [List.map_cons, map2R, map2R, map2R_map f g xs]
@[simp] theorem map2Q_map {α β : Type} (f : β → R (List D)) (g : α → β) (xs : List α) : map2Q f (xs.map g) = map2Q (fun a => f (g a)) xs := by
  unfold map2Q
  rw [map2R_map]
@[simp] theorem nList_v (fs : Sd → R (List D)) (σ : Sd) : nList fs σ = (fs σ >>= nlK) := rfl
@[simp] theorem nlK_l (xs : List D) : nlK [.lst xs] = .ok xs := rfl
@[simp] theorem nlK_t (xs : List D) : nlK [.tup xs] = .ok xs := rfl
@[simp] theorem sSetO2_v (i : Nat) (f : Sd → R (List (List D))) (σ : Sd) : sSetO2 i f σ = (f σ).toOut σ fun d => if i < σ.length then .next (σ.set i (some (.ol2 d))) else .stuck := rfl
@[simp] theorem ol2At_0 (xs : List (List D)) (σ : Sd) (k : List (List D) → Out) : ol2At 0 (some (.ol2 xs) :: σ) k = k xs := rfl
@[simp] theorem ol2At_s (i : Nat) (x : Option D) (σ : Sd) (k : List (List D) → Out) : ol2At (i + 1) (x :: σ) k = ol2At i σ k := rfl
@[simp] theorem sFrz2_v (i : Nat) (g : DS) (σ : Sd) : sFrz2 i g σ = ol2At i σ fun xs => g (σ.set i (some (.lst (xs.map .lst)))) := rfl
@[simp] theorem sSetIx2_v (i : Nat) (f1 f2 fv : DE) (σ : Sd) : sSetIx2 i f1 f2 fv σ = (fv σ).toOut σ fun d => ol2At i σ fun xss => (f1 σ).toOut σ fun k => rowAt xss k fun j xs => (f2 σ).toOut σ (setK2 i σ xss d j xs) := rfl
theorem ixN_nat {n i : Nat} (h : i < n) : ixN n (i : Int) = some i := by
  unfold ixN
  rw [if_pos (by omega), if_pos (by omega)]
  simp
theorem rowAt_n {xss : List (List D)} {i : Nat} {xs : List D} (h : xss[i]? = some xs) (k : Nat → List D → Out) : rowAt xss (.int (i : Int)) k = k i xs := by
  obtain ⟨hl, _⟩ := List.getElem?_eq_some_iff.mp h
  unfold rowAt
  simp only [ixN_nat hl, h]
theorem setK2_n {i : Nat} {σ : Sd} {xss : List (List D)} {d : D} {j : Nat} {xs : List D} {n : Nat} (h : n < xs.length) : setK2 i σ xss d j xs (.int (n : Int)) = .next (σ.set i (some (.ol2 (xss.set j (xs.set n d))))) := by
  unfold setK2
  simp only [ixN_nat h]
/-! an item of an owned list -/
def olIx : Option (Option D) → (List D → R D) → R D
  | some (some (.ol xs)), k => k xs
  | _, _ => .stuck
def ixK (xs : List D) : D → R D
  | .int n => ofO (atI xs n)
  | _ => .stuck
theorem eIxO_v (i : Nat) (f : DE) (σ : Sd) : eIxO i f σ = olIx σ[i]? fun xs => (f σ >>= ixK xs) := by
  unfold eIxO
  cases h : σ[i]? with
  | none => rfl
  | some o =>
    cases o with
    | none => rfl
    | some d =>
      cases d <;> first | rfl | skip
@[simp] theorem olIx_v (xs : List D) (k : List D → R D) : olIx (some (some (.ol xs))) k = k xs := rfl
@[simp] theorem ixK_i (xs : List D) (n : Int) : ixK xs (.int n) = ofO (atI xs n) := rfl
@[simp] theorem sSetIx_v (i : Nat) (fi fv : DE) (σ : Sd) : sSetIx i fi fv σ = (fv σ).toOut σ fun d => olAt i σ fun xs => (fi σ).toOut σ fun k => match k with
  | .int n => (match ixN xs.length n with
    | some j => .next (σ.set i (some (.ol (xs.set j d))))
    | none => .stuck)
  | _ => .stuck := rfl
@[simp] theorem leTD_2 (a b c d : Int) : leTD (.tup [.int a, .int b]) (.tup [.int c, .int d]) = .ok (.bl (if a = c then (if b = d then true else decide (b ≤ d)) else decide (a ≤ c))) := by
  unfold leTD
  simp [FF.intsOf, Ob.lexAt]
end FF
set_option maxHeartbeats 4000000
namespace FF
open PySem PySem.Spec PyProof.Rows L2
@[simp] theorem iZipM_v (fa fb : DE) (σ : Sd) : iZipM fa fb σ = (fa σ >>= fun x => fb σ >>= fun y => zipK x y) := rfl
@[simp] theorem zipK_ll (xs ys : List D) : zipK (.lst xs) (.lst ys) = .ok (zipT xs ys) := rfl
@[simp] theorem zipK_tt (xs ys : List D) : zipK (.tup xs) (.tup ys) = .ok (zipT xs ys) := rfl
@[simp] theorem zipK_tl (xs ys : List D) : zipK (.tup xs) (.lst ys) = .ok (zipT xs ys) := rfl
theorem zipT_map {α : Type} (f g : α → D) : ∀ xs : List α, zipT (xs.map f) (xs.map g) = xs.map fun a => .tup [f a, g a]
  | [] => rfl
  | x :: xs => by
    show _ :: zipT (xs.map f) (xs.map g) = _
    rw [zipT_map f g xs]
    rfl
@[simp] theorem eSortSet_v (f : DE) (σ : Sd) : eSortSet f σ = (f σ >>= fun x => srtK x) := rfl
theorem srtK_ints {ns : List Int} (h1 : ns.length ≤ 4000) (h2 : (sortU ns).length < 64) : srtK (.lst (ns.map D.int)) = .ok (.lst ((sortU ns).map D.int)) := by
  unfold srtK
  simp only [intsOf_map]
  exact if_pos ⟨h1, h2⟩
theorem sortL_ints {ns : List Int} (h : ns.length < 64) : sortL [.lst (ns.map D.int)] = .ok (.lst ((sortN ns).map D.int)) := by
  unfold sortL
  simp only [intsOf_map]
  exact if_pos h
end FF
set_option maxHeartbeats 4000000
/-! what the denotations of owned dicts compute -/
namespace FF
open PySem PySem.Spec PyProof.Rows L2
def odAt : Nat → Sd → (List DKey → List D → Out) → Out
  | 0, some (.od ks ds) :: _, k => k ks ds
  | i + 1, _ :: σ, k => odAt i σ k
  | _, _, _ => .stuck
@[simp] theorem odAt_0 (ks : List DKey) (ds : List D) (σ : Sd) (k : List DKey → List D → Out) : odAt 0 (some (.od ks ds) :: σ) k = k ks ds := rfl
@[simp] theorem odAt_s (i : Nat) (x : Option D) (σ : Sd) (k : List DKey → List D → Out) : odAt (i + 1) (x :: σ) k = odAt i σ k := rfl
theorem odAt_get : ∀ (i : Nat) (σ : Sd) (k : List DKey → List D → Out), odAt i σ k = (match σ[i]? with
  | some (some (.od ks ds)) => k ks ds
  | _ => .stuck)
  | 0, [], _ => rfl
  | 0, x :: σ, k => by
    cases x with
    | none => rfl
    | some d => cases d <;> rfl
  | i + 1, [], _ => rfl
  | i + 1, x :: σ, k => by
    rw [odAt_s, odAt_get i σ k]
    rfl
@[simp] theorem sSetOD_v (i : Nat) (ks : List Key) (fs : Sd → R (List D)) (σ : Sd) : sSetOD i ks fs σ = (fs σ).toOut σ fun ds => if i < σ.length ∧ ds.length = ks.length then .next (σ.set i (some (.od (ks.map Sum.inl) ds))) else .stuck := rfl
def putKd (i : Nat) (σ : Sd) (d : D) (ks : List DKey) (ds : List D) (k : D) : Out := match keyK k with
  | some κ => if inlD ks = true ∧ ks.length < sizeLine then .next (σ.set i (some (.od (if hasK κ ks = true then ks else ks ++ [.inl κ]) (if hasK κ ks = true then repK κ d ks ds else ds ++ [d])))) else .stuck
  | none => .stuck
@[simp] theorem sDPutD_v (i : Nat) (fk fv : DE) (σ : Sd) : sDPutD i fk fv σ = (fv σ).toOut σ fun d => odAt i σ fun ks ds => (fk σ).toOut σ fun k => putKd i σ d ks ds k := by
  unfold sDPutD
  refine congrArg _ (funext fun d => ?_)
  rw [odAt_get] <;> rfl
theorem putKd_new {i : Nat} {σ : Sd} {d : D} {ks : List DKey} {ds : List D} {κ : Key} {k : D} (hk : keyK k = some κ) (hi : inlD ks = true) (hl : ks.length < 1000000) (hn : hasK κ ks = false) : putKd i σ d ks ds k = .next (σ.set i (some (.od (ks ++ [.inl κ]) (ds ++ [d])))) := by
  unfold putKd
  have hl' : ks.length < sizeLine := sz_lt hl
  simp [hk, hi, hn, hl']
def odE : Nat → Sd → (List DKey → List D → R D) → R D
  | 0, some (.od ks ds) :: _, k => k ks ds
  | i + 1, _ :: σ, k => odE i σ k
  | _, _, _ => .stuck
@[simp] theorem odE_0 (ks : List DKey) (ds : List D) (σ : Sd) (k : List DKey → List D → R D) : odE 0 (some (.od ks ds) :: σ) k = k ks ds := rfl
@[simp] theorem odE_s (i : Nat) (x : Option D) (σ : Sd) (k : List DKey → List D → R D) : odE (i + 1) (x :: σ) k = odE i σ k := rfl
theorem odE_get : ∀ (i : Nat) (σ : Sd) (k : List DKey → List D → R D), odE i σ k = (match σ[i]? with
  | some (some (.od ks ds)) => k ks ds
  | _ => .stuck)
  | 0, [], _ => rfl
  | 0, x :: σ, k => by
    cases x with
    | none => rfl
    | some d => cases d <;> rfl
  | i + 1, [], _ => rfl
  | i + 1, x :: σ, k => by
    rw [odE_s, odE_get i σ k]
    rfl
@[simp] theorem eDGet_v (i : Nat) (f : DE) (σ : Sd) : eDGet i f σ = odE i σ fun ks ds => f σ >>= fun k => dgK ks ds k := by
  unfold eDGet
  rw [odE_get] <;> rfl
end FF
set_option maxHeartbeats 4000000
/-! what the denotations of dicts with tuple keys compute; loops that may be left -/
namespace FF
open PySem PySem.Spec PyProof.Rows L2
@[simp] theorem odTs_v (ks : List (List Key)) (ds : List D) (k : List (List Key) → List D → R D) : odTs (some (some (.odT ks ds))) k = k ks ds := rfl
@[simp] theorem odTo_v (ks : List (List Key)) (ds : List D) (k : List (List Key) → List D → Out) : odTo (some (some (.odT ks ds))) k = k ks ds := rfl
@[simp] theorem sNewT_v (i : Nat) (σ : Sd) : sNewT i σ = if i < σ.length then .next (σ.set i (some (.odT [] []))) else .stuck := rfl
@[simp] theorem eInT_v (neg : Bool) (fk : Sd → R (List Key)) (i : Nat) (σ : Sd) : eInT neg fk i σ = (fk σ >>= fun κ => odTs σ[i]? fun ks _ => .ok (.bl (neg != memT κ ks))) := rfl
@[simp] theorem eGetT_v (i : Nat) (fk : Sd → R (List Key)) (σ : Sd) : eGetT i fk σ = odTs σ[i]? fun ks ds => fk σ >>= fun κ => ofO (getT ks ds κ) := rfl
@[simp] theorem eLenT_v (i : Nat) (σ : Sd) : eLenT i σ = odTs σ[i]? fun ks _ => .ok (.int ks.length) := rfl
def putT (i : Nat) (σ : Sd) (d : D) (ks : List (List Key)) (ds : List D) (κ : List Key) : Out := if ks.length < sizeLine then .next (σ.set i (some (.odT (if memT κ ks = true then ks else ks ++ [κ]) (if memT κ ks = true then repT κ d ks ds else ds ++ [d])))) else .stuck
@[simp] theorem sPutT_v (i : Nat) (fk : Sd → R (List Key)) (fv : DE) (σ : Sd) : sPutT i fk fv σ = (fv σ).toOut σ fun d => odTo σ[i]? fun ks ds => (fk σ).toOut σ fun κ => putT i σ d ks ds κ := rfl
theorem putT_new {i : Nat} {σ : Sd} {d : D} {ks : List (List Key)} {ds : List D} {κ : List Key} (hl : ks.length < 1000000) (hn : memT κ ks = false) : putT i σ d ks ds κ = .next (σ.set i (some (.odT (ks ++ [κ]) (ds ++ [d])))) := by
  unfold putT
  have hl' : ks.length < sizeLine := sz_lt hl
  simp [hn, hl']
@[simp] theorem sSetK_v (i : Nat) (fk : Sd → R (List Key)) (σ : Sd) : sSetK i fk σ = (fk σ).toOut σ fun ks => if i < σ.length then .next (σ.set i (some (.kt ks))) else .stuck := rfl
@[simp] theorem kTup_v (fs : Sd → R (List D)) (σ : Sd) : kTup fs σ = (fs σ >>= keyR) := rfl
@[simp] theorem keyR_2 (a b : Int) : keyR [.int a, .int b] = .ok [.inl a, .inl b] := by
  show (if 2 ≤ sizeLine then R.ok [Sum.inl a, Sum.inl b] else .stuck) = _
  rw [if_pos (sz_le (by omega))]
def kvO : Option (Option D) → R (List Key)
  | some (some (.kt ks)) => .ok ks
  | _ => .stuck
@[simp] theorem kvO_v (ks : List Key) : kvO (some (some (.kt ks))) = .ok ks := rfl
@[simp] theorem kVar_v (i : Nat) (σ : Sd) : kVar i σ = kvO σ[i]? := by
  unfold kVar
  cases h : σ[i]? with
  | none => rfl
  | some o =>
    cases o with
    | none => rfl
    | some d => cases d <;> rfl
@[simp] theorem sIns_v (i : Nat) (fa fb : DE) (σ : Sd) : sIns i fa fb σ = olAt i σ fun xs => (fa σ).toOut σ fun k => (fb σ).toOut σ fun d => insK i σ xs k d := rfl
/-! ### keys of two numbers -/
def kk2 (x y : Nat) : List Key := [.inl (x : Int), .inl (y : Int)]
theorem kk2_inj {x y x' y' : Nat} (h : kk2 x y = kk2 x' y') : x = x' ∧ y = y' := by
  unfold kk2 at h
  simp at h
  omega
theorem memT_app (κ : List Key) : ∀ (ks : List (List Key)) (k : List Key), memT κ (ks ++ [k]) = (memT κ ks || decide (k = κ))
  | [], k => by simp [memT]
  | k0 :: ks, k => by
    show (decide (k0 = κ) || memT κ (ks ++ [k])) = _
    rw [memT_app κ ks k, ← Bool.or_assoc]
    rfl
theorem getT_app {κ : List Key} {d : D} : ∀ {ks : List (List Key)} {ds : List D} (k : List Key) (e : D), ks.length = ds.length → getT ks ds κ = some d → getT (ks ++ [k]) (ds ++ [e]) κ = some d
  | [], ds, k, e, _, h => by simp [getT] at h
  | k0 :: ks, [], k, e, l, _ => by simp at l
  | k0 :: ks, d0 :: ds, k, e, l, h => by
    simp only [List.cons_append, getT] at h ⊢
    by_cases c : k0 = κ
    · rw [if_pos c] at h ⊢
      exact h
    · rw [if_neg c] at h ⊢
      exact getT_app k e (by simpa using l) h
theorem getT_new {κ : List Key} {d : D} : ∀ {ks : List (List Key)} {ds : List D}, ks.length = ds.length → memT κ ks = false → getT (ks ++ [κ]) (ds ++ [d]) κ = some d
  | [], ds, l, _ => by
    cases ds with
    | nil => simp [getT]
    | cons _ _ => simp at l
  | k0 :: ks, [], l, _ => by simp at l
  | k0 :: ks, d0 :: ds, l, h => by
    simp only [memT, Bool.or_eq_false_iff, decide_eq_false_iff_not] at h
    simp only [List.cons_append, getT, if_neg h.1]
    exact getT_new (by simpa using l) h.2
/-- an end that goes on with I, or is left as E says -/
def Exi (cl : List Nat) (I : Sd → Prop) (E : Out → Prop) : Out → Prop
  | .next σ => I (clr cl σ)
  | .cont σ => I (clr cl σ)
  | .ret d σ => E (.ret d σ)
  | .exc c σ => E (.exc c σ)
  | _ => False
@[simp] theorem Exi_next (cl : List Nat) (I : Sd → Prop) (E : Out → Prop) (σ : Sd) : Exi cl I E (.next σ) ↔ I (clr cl σ) := Iff.rfl
@[simp] theorem Exi_cont (cl : List Nat) (I : Sd → Prop) (E : Out → Prop) (σ : Sd) : Exi cl I E (.cont σ) ↔ I (clr cl σ) := Iff.rfl
@[simp] theorem Exi_ret (cl : List Nat) (I : Sd → Prop) (E : Out → Prop) (d : D) (σ : Sd) : Exi cl I E (.ret d σ) ↔ E (.ret d σ) := Iff.rfl
@[simp] theorem Exi_exc (cl : List Nat) (I : Sd → Prop) (E : Out → Prop) (c : Str) (σ : Sd) : Exi cl I E (.exc c σ) ↔ E (.exc c σ) := Iff.rfl
theorem Exi.out {cl : List Nat} {I : Sd → Prop} {E : Out → Prop} {o : Out} (h : Exi cl I E o) (k : Sd → Out) : (∃ τ, I (clr cl τ) ∧ loopK cl k o = k τ) ∨ E o ∧ loopK cl k o = o := by
  cases o <;> first | exact h.elim | exact .inl ⟨_, h, rfl⟩ | exact .inr ⟨h, rfl⟩
theorem forL_exi {α : Type} {P : Out → Prop} {cl : List Nat} {step : α → Sd → Out} {xs : List α} (I : List α → Sd → Prop)
    (h : ∀ pre a post, xs = pre ++ a :: post → ∀ τ, I pre τ → Exi cl (I (pre ++ [a])) P (step a τ)) (hk : ∀ τ, I xs τ → P (.next τ)) : ∀ (post pre : List α) (σ : Sd), xs = pre ++ post → I pre (clr cl σ) → P (forL cl step post σ)
  | [], pre, σ, e, i => hk _ (by rw [e, List.append_nil]; exact i)
  | a :: post, pre, σ, e, i => by
    rcases (h pre a post e _ i).out (forL cl step post) with ⟨τ, h1, h2⟩ | ⟨h1, h2⟩
    · rw [forL_cons, h2]
      exact forL_exi I h hk post (pre ++ [a]) τ (by rw [e]; simp) h1
    · rw [forL_cons, h2]
      exact h1
/-- by numbers -/
theorem forL_exiN {P : Out → Prop} {cl : List Nat} {step : Nat → Sd → Out} {n : Nat} {σ : Sd} (I : Nat → Sd → Prop) (h0 : I 0 (clr cl σ)) (h : ∀ k, k < n → ∀ τ, I k τ → Exi cl (I (k + 1)) P (step k τ)) (hk : ∀ τ, I n τ → P (.next τ)) : P (forL cl step (List.range n) σ) := by
  refine forL_exi (xs := List.range n) (fun pre => I pre.length) (fun pre a post e τ i => ?_) (fun τ i => hk τ (by rw [List.length_range] at i; exact i)) (List.range n) [] σ rfl h0
  have e1 : (List.range n)[pre.length]? = some a := by rw [e]; simp
  obtain ⟨h1, h2⟩ := List.getElem?_eq_some_iff.mp e1
  rw [List.length_range] at h1
  rw [List.getElem_range] at h2
  subst h2
  rw [List.length_append]
  exact h _ h1 τ i
end FF
set_option maxHeartbeats 4000000
/-! what the denotations of rows, range of three, min of pairs, sorted of pairs compute -/
namespace FF
open PySem PySem.Spec PyProof.Rows L2
@[simp] theorem rowTD_l (ds : List D) : rowTD [.lst ds] = .ok (.row ds) := rfl
@[simp] theorem rowSl_v (ds : List D) (k : List D → R D) : rowSl (some (some (.row ds))) k = k ds := rfl
@[simp] theorem own_row (b : List D) : (D.row b).isOwn = false := rfl
@[simp] theorem eInRow_v (f : DE) (i : Nat) (σ : Sd) : eInRow f i σ = (f σ >>= fun d => rowSl σ[i]? fun ds => if okIn d ds = true then .ok (.bl (inL d ds)) else .stuck) := rfl
@[simp] theorem eIxRow_v (i : Nat) (f : DE) (σ : Sd) : eIxRow i f σ = rowSl σ[i]? fun ds => f σ >>= fun d => (plc idxK ds d).quiet := rfl
@[simp] theorem iRange3_v (fs : Sd → R (List D)) (σ : Sd) : iRange3 fs σ = (fs σ >>= rg3K) := rfl
theorem rg3K_n (n c m : Nat) (hc : 0 < c) (h : n = m * c) (hn : n ≤ 1000000) (hc2 : c ≤ 1000000) : rg3K [.int 0, .int (n : Int), .int (c : Int)] = .ok ((List.range m).map fun i : Nat => D.int ((i * c : Nat) : Int)) := by
  have e : (if (0 : Int) < (n : Int) then ((n : Int) - 0 - 1) / (c : Int) + 1 else 0).toNat = m := by
    by_cases z : m = 0
    · subst z
      have : n = 0 := by omega
      subst this
      rfl
    · have hp : 0 < m * c := Nat.mul_pos (by omega) hc
      rw [if_pos (by omega)]
      obtain ⟨k, rfl⟩ := Nat.exists_eq_succ_of_ne_zero z
      have e1 : ((n : Int) - 0 - 1) = (((k * c + (c - 1) : Nat)) : Int) := by
        rw [h, Nat.succ_mul]
        omega
      rw [e1, ← Int.natCast_ediv, Nat.mul_comm, Nat.mul_add_div hc, Nat.div_eq_of_lt (by omega)]
      omega
  have h2 : rg3K [.int 0, .int (n : Int), .int (c : Int)] = .ok (rangeS 0 (c : Int) (if (0 : Int) < (n : Int) then ((n : Int) - 0 - 1) / (c : Int) + 1 else 0).toNat) := if_pos (by omega)
  rw [h2, e]
  unfold rangeS
  refine congrArg R.ok (List.map_congr_left fun i _ => ?_)
  rw [Int.zero_add, Int.natCast_mul]
@[simp] theorem nCat_v (fa fb : DE) (σ : Sd) : nCat fa fb σ = (fa σ >>= fun x => fb σ >>= fun y => catK x y) := rfl
theorem catK_l (xs ys : List D) (h : xs.length + ys.length ≤ 1000000) : catK (.lst xs) (.lst ys) = .ok (xs ++ ys) := if_pos (sz_le h)
@[simp] theorem eListRg2_v (fa fb : DE) (σ : Sd) : eListRg2 fa fb σ = (fa σ >>= fun x => fb σ >>= fun y => lr2K x y) := rfl
@[simp] theorem eLcT_v (own : List Nat) (t : Tgt) (tt : Sd → R Bool) (te : DE) (fi : Sd → R (List D)) (σ : Sd) : eLcT own t tt te fi σ = (lcAllT own t tt te fi σ >>= fun ys => .ok (.lst ys)) := rfl
@[simp] theorem ynT_t {α : Type} (a b : R α) : (R.ok true).ynT a b = a := rfl
@[simp] theorem ynT_f {α : Type} (a b : R α) : (R.ok false).ynT a b = b := rfl
@[simp] theorem ynT_e {α : Type} (c : Str) (a b : R α) : (R.exc c : R Bool).ynT a b = R.exc c := rfl
@[simp] theorem kAnyP_v (p : List Key → Bool) (cons : List (List Key)) (f : DE) (σ : Sd) : kAnyP p cons f σ = (f σ >>= kAnyPK p cons) := rfl
def filT {α : Type} (t : α → R Bool) (f : α → R D) : List α → R (List D)
  | [] => .ok []
  | a :: as => (t a).ynT (f a >>= fun y => filT t f as >>= fun ys => .ok (y :: ys)) (filT t f as)
def filTQ (t : D → R Bool) (f : D → R D) (ds : List D) : R (List D) := if ds.length ≤ sizeLine then filT t f ds else .stuck
theorem lcDT_filT (own : List Nat) (t : Tgt) (tt : Sd → R Bool) (te : DE) (σ : Sd) : ∀ ds : List D, (∀ d ∈ ds, ∃ σ1, t.put d (clrO own σ) = .ok σ1) → lcDT own t tt te σ ds = filT (fun d => (t.put d (clrO own σ)).then tt) (fun d => (t.put d (clrO own σ)).then te) ds
  | [], _ => rfl
  | d :: ds, h => by
    obtain ⟨σ1, e⟩ := h d (by simp)
    rw [lcDT, filT, lcDT_filT own t tt te σ ds (fun d hd => h d (by simp [hd])), e]
    rfl
theorem filT_ok {α : Type} {t : α → R Bool} {f : α → R D} (p : α → Bool) (g : α → D) : ∀ (xs : List α), (∀ a ∈ xs, t a = .ok (p a)) → (∀ a ∈ xs, p a = true → f a = .ok (g a)) → filT t f xs = .ok ((xs.filter p).map g)
  | [], _, _ => rfl
  | a :: as, h1, h2 => by
    rw [filT, h1 a (by simp), filT_ok p g as (fun b hb => h1 b (by simp [hb])) (fun b hb => h2 b (by simp [hb])), List.filter_cons]
    cases q : p a with
    | false => rfl
    | true =>
      rw [h2 a (by simp) q]
      rfl
theorem filT_map {α β : Type} (t : β → R Bool) (f : β → R D) (g : α → β) : ∀ xs : List α, filT t f (xs.map g) = filT (fun a => t (g a)) (fun a => f (g a)) xs
  | [] => rfl
  | x :: xs => by rw [List.map_cons, filT, filT, filT_map t f g xs]
/-! ### < of pairs of numbers -/
theorem ltB_ii (a b c d : Int) : ltB (.tup [.int a, .int b]) (.tup [.int c, .int d]) = decide (a < c ∨ (a = c ∧ b < d)) := by
  unfold ltB ltQ
  simp only [toPy, toPyL, ltO, ltOL, PyData.eqv]
  by_cases h1 : a = c
  · subst h1
    by_cases h2 : b = d
    · subst h2
      simp
    · simp [h2]
  · simp [h1]
theorem ltQ_ii (a b c d : Int) : (ltQ (.tup [.int a, .int b]) (.tup [.int c, .int d])).isSome = true := by
  unfold ltQ
  simp only [toPy, toPyL, ltO, ltOL, PyData.eqv]
  by_cases h1 : a = c <;> by_cases h2 : b = d <;> simp [h1, h2]
/-- min of a list of pairs of numbers: the least of them -/
theorem minQ_ii (x : Int × Int) (xs : List (Int × Int)) : ∃ m ∈ x :: xs, minQ [.lst ((x :: xs).map fun p => .tup [.int p.1, .int p.2])] = .ok (.tup [.int m.1, .int m.2]) ∧ ∀ y ∈ x :: xs, m.1 < y.1 ∨ (m.1 = y.1 ∧ m.2 ≤ y.2) := by
  have h1 : isDataL ((x :: xs).map fun p : Int × Int => D.tup [.int p.1, .int p.2]) = true := isDataL_all fun d hd => by
    obtain ⟨p, _, rfl⟩ := List.mem_map.mp hd
    simp [isData, isDataL]
  have h2 : ∀ zs : List (Int × Int), dptL (zs.map fun p : Int × Int => D.tup [.int p.1, .int p.2]) ≤ 1 := by
    intro zs
    induction zs with
    | nil => simp [dptL]
    | cons z zs ih =>
      rw [List.map_cons, dptL]
      have : dpt (D.tup [.int z.1, .int z.2]) = 1 := by simp [dpt, dptL]
      omega
  have h3 : allCmp ((x :: xs).map fun p : Int × Int => D.tup [.int p.1, .int p.2]) = true := List.all_eq_true.mpr fun d hd => List.all_eq_true.mpr fun e he => by
    obtain ⟨p, _, rfl⟩ := List.mem_map.mp hd
    obtain ⟨q, _, rfl⟩ := List.mem_map.mp he
    exact ltQ_ii _ _ _ _
  have e : minQ [.lst ((x :: xs).map fun p : Int × Int => D.tup [.int p.1, .int p.2])] = .ok ((xs.map fun p : Int × Int => D.tup [.int p.1, .int p.2]).foldl (fun a y => if ltB y a then y else a) (.tup [.int x.1, .int x.2])) :=
    if_pos ⟨h1, Nat.le_trans (h2 (x :: xs)) (by decide), h3⟩
  have g : ∀ (zs : List (Int × Int)) (a : Int × Int), ∃ m ∈ a :: zs, (zs.map fun p : Int × Int => D.tup [.int p.1, .int p.2]).foldl (fun a y => if ltB y a then y else a) (.tup [.int a.1, .int a.2]) = .tup [.int m.1, .int m.2] ∧ ∀ y ∈ a :: zs, m.1 < y.1 ∨ (m.1 = y.1 ∧ m.2 ≤ y.2) := by
    intro zs
    induction zs with
    | nil => exact fun a => ⟨a, by simp, rfl, fun y hy => by simp at hy; subst hy; omega⟩
    | cons z zs ih =>
      intro a
      rw [List.map_cons, List.foldl_cons, ltB_ii]
      by_cases q : z.1 < a.1 ∨ (z.1 = a.1 ∧ z.2 < a.2)
      · rw [if_pos (by simpa using q)]
        obtain ⟨m, m1, m2, m3⟩ := ih z
        refine ⟨m, List.mem_cons_of_mem _ m1, m2, fun y hy => ?_⟩
        rcases List.mem_cons.mp hy with r | r
        · have := m3 z List.mem_cons_self
          rw [r]
          omega
        · exact m3 y r
      · rw [if_neg (by simpa using q)]
        obtain ⟨m, m1, m2, m3⟩ := ih a
        refine ⟨m, ?_, m2, fun y hy => ?_⟩
        · rcases List.mem_cons.mp m1 with r | r
          · rw [r]; exact List.mem_cons_self
          · exact List.mem_cons_of_mem _ (List.mem_cons_of_mem _ r)
        · rcases List.mem_cons.mp hy with r | r
          · rw [r]; exact m3 a List.mem_cons_self
          · rcases List.mem_cons.mp r with r | r
            · have := m3 a List.mem_cons_self
              rw [r]
              omega
            · exact m3 y (List.mem_cons_of_mem _ r)
  rw [e]
  obtain ⟨m, m1, m2, m3⟩ := g xs x
  exact ⟨m, m1, by rw [m2], m3⟩
/-! ### {} with plain keys, sorted(list(d)), remove; dicts with nested keys -/
@[simp] theorem sNewK_v (i : Nat) (σ : Sd) : sNewK i σ = if i < σ.length then .next (σ.set i (some (.od [] []))) else .stuck := rfl
def sortK : Option (Option D) → R (List D)
  | some (some (.od ks _)) => (match keysI ks with
    | some ns => .ok ((sortN ns).map .int)
    | none => .stuck)
  | _ => .stuck
@[simp] theorem nSortD_v (i : Nat) (σ : Sd) : nSortD i σ = sortK σ[i]? := by
  unfold nSortD sortK
  rcases σ[i]? with _ | _ | d <;> first | rfl | (cases d <;> rfl)
theorem sortK_od (ns : List Int) (ds : List D) : sortK (some (some (.od (ns.map fun n => .inl (.inl n)) ds))) = .ok ((sortN ns).map .int) := by
  have e : keysI (ns.map fun n => .inl (.inl n)) = some ns := by
    induction ns with
    | nil => rfl
    | cons n ns ih => rw [List.map_cons, keysI, ih]
  show (match keysI (ns.map fun n => .inl (.inl n)) with
    | some ns => R.ok ((sortN ns).map D.int)
    | none => .stuck) = _
  rw [e]
def remO (i : Nat) (σ : Sd) : R (List D) → Out
  | .ok ys => .next (σ.set i (some (.ol ys)))
  | _ => .stuck
@[simp] theorem sRem_v (i : Nat) (f : DE) (σ : Sd) : sRem i f σ = olAt i σ fun xs => (f σ).toOut σ fun d => remO i σ (remK xs d) := by
  unfold sRem
  refine congrArg _ (funext fun xs => congrArg _ (funext fun d => ?_))
  cases remK xs d <;> rfl
@[simp] theorem remO_ok (i : Nat) (σ : Sd) (ys : List D) : remO i σ (.ok ys) = .next (σ.set i (some (.ol ys))) := rfl
@[simp] theorem sNewN_v (i : Nat) (σ : Sd) : sNewN i σ = if i < σ.length then .next (σ.set i (some (.odN [] []))) else .stuck := rfl
@[simp] theorem odNs_v (ks : List NestedKey) (ds : List D) (k : List NestedKey → List D → R D) : odNs (some (some (.odN ks ds))) k = k ks ds := rfl
@[simp] theorem eLenN_v (i : Nat) (σ : Sd) : eLenN i σ = odNs σ[i]? fun ks _ => .ok (.int ks.length) := rfl
def putNK (i : Nat) (σ : Sd) (d : D) (ks : List NestedKey) (ds : List D) (kd : D) : Out := match keyN kd with
  | some κ => if isTupD kd = true ∧ κ.depth ≤ 8 ∧ ks.length < sizeLine then .next (σ.set i (some (putNs ks ds κ d))) else .stuck
  | none => .stuck
def odNo : Option (Option D) → (List NestedKey → List D → Out) → Out
  | some (some (.odN ks ds)), k => k ks ds
  | _, _ => .stuck
@[simp] theorem odNo_v (ks : List NestedKey) (ds : List D) (k : List NestedKey → List D → Out) : odNo (some (some (.odN ks ds))) k = k ks ds := rfl
@[simp] theorem sPutN_v (i : Nat) (fk fv : DE) (σ : Sd) : sPutN i fk fv σ = (fv σ).toOut σ fun d => odNo σ[i]? fun ks ds => (fk σ).toOut σ fun kd => putNK i σ d ks ds kd := by
  unfold sPutN
  refine congrArg _ (funext fun d => ?_)
  rcases σ[i]? with _ | _ | x <;> first | rfl | (cases x <;> rfl)
@[simp] theorem eInN_v (neg : Bool) (f : DE) (i : Nat) (σ : Sd) : eInN neg f i σ = (f σ >>= fun kd => odNs σ[i]? fun ks _ => inNK neg ks kd) := rfl
end FF
set_option maxHeartbeats 4000000
/-! what the denotations with objects compute -/
namespace FF
open PySem PySem.Spec PyProof.Rows L2
/-! ### the store -/
theorem lk_upS {st : Store} {p : Addr} {d e : D} (h : lk st p = some d) : lk (upS p e st) p = some e := by
  induction st with
  | nil => cases h
  | cons x r ih =>
    unfold lk at h
    unfold upS
    by_cases q : x.1 = p
    · rw [if_pos q]
      show (if p = p then some e else lk r p) = some e
      rw [if_pos rfl]
    · rw [if_neg q] at h
      rw [if_neg q]
      show (if x.1 = p then some x.2 else lk (upS p e r) p) = some e
      rw [if_neg q]
      exact ih h
theorem lk_upS_ne {st : Store} {p q : Addr} {e : D} (h : q ≠ p) : lk (upS p e st) q = lk st q := by
  induction st with
  | nil => rfl
  | cons x r ih =>
    unfold upS
    by_cases z : x.1 = p
    · rw [if_pos z]
      show (if p = q then some e else lk r q) = (if x.1 = q then some x.2 else lk r q)
      rw [if_neg (Ne.symm h), if_neg (by rw [z]; exact Ne.symm h)]
    · rw [if_neg z]
      show (if x.1 = q then some x.2 else lk (upS p e r) q) = (if x.1 = q then some x.2 else lk r q)
      rw [ih]
@[simp] theorem upS_cons (p : Addr) (d : D) (x : Addr × D) (r : Store) : upS p d (x :: r) = if x.1 = p then (p, d) :: r else x :: upS p d r := rfl
theorem upS_upS {st : Store} {p : Addr} {d e : D} : upS p d (upS p e st) = upS p d st := by
  induction st with
  | nil => rfl
  | cons x r ih =>
    rw [upS_cons, upS_cons]
    by_cases z : x.1 = p
    · rw [if_pos z, if_pos z, upS_cons, if_pos rfl]
    · rw [if_neg z, if_neg z, upS_cons, if_neg z, ih]
@[simp] theorem lk_cons (x : Addr × D) (r : Store) (p : Addr) : lk (x :: r) p = if x.1 = p then some x.2 else lk r p := rfl
@[simp] theorem lk_nil (p : Addr) : lk [] p = none := rfl
@[simp] theorem own_ob (p : Addr) : (D.ob p).isOwn = false := rfl
@[simp] theorem own_inst (c : Str) (ks : List Str) (ds : List D) : (D.inst c ks ds).isOwn = false := rfl
/-! ### looked at -/
@[simp] theorem viewS_nil (st : Store) : viewS st [] = [] := rfl
@[simp] theorem viewS_none (st : Store) (σ : Sd) : viewS st (none :: σ) = none :: viewS st σ := rfl
@[simp] theorem viewS_some (st : Store) (d : D) (σ : Sd) : viewS st (some d :: σ) = some (vw st d) :: viewS st σ := rfl
@[simp] theorem viewS_rep (st : Store) (n : Nat) : viewS st (List.replicate n none) = List.replicate n none := by simp [viewS]
@[simp] theorem vw_non (st : Store) : vw st .non = .non := rfl
@[simp] theorem vw_bl (st : Store) (b : Bool) : vw st (.bl b) = .bl b := rfl
@[simp] theorem vw_int (st : Store) (b : Int) : vw st (.int b) = .int b := rfl
@[simp] theorem vw_str (st : Store) (b : Str) : vw st (.str b) = .str b := rfl
@[simp] theorem vw_tup (st : Store) (b : List D) : vw st (.tup b) = .tup b := rfl
@[simp] theorem vw_lst (st : Store) (b : List D) : vw st (.lst b) = .lst b := rfl
@[simp] theorem vw_src (st : Store) (b : List Int) : vw st (.src b) = .src b := rfl
@[simp] theorem vw_dic (st : Store) (k : List DKey) (b : List D) : vw st (.dic k b) = .dic k b := rfl
theorem vw_oi {st : Store} {p : Addr} {c : Str} {ks : List Str} {ds es : List D} (h : lk st p = some (.oi c ks ds)) (he : frzL ds = some es) : vw st (.ob p) = .inst c ks es := by
  show viewO p (lk st p) = _
  rw [h]
  show viewI p c ks (frzL ds) = _
  rw [he]
  rfl
theorem vw_ol {st : Store} {p : Addr} {xs : List D} (h : lk st p = some (.ol xs)) : vw st (.ob p) = .lst xs := by
  show viewO p (lk st p) = _
  rw [h]
  rfl
theorem obAt_v {st : Store} {p : Addr} {c : Str} {ks : List Str} {ds : List D} (h : lk st p = some (.oi c ks ds)) : obAt c st (.ob p) = some (p, ks, ds) := by
  unfold obAt
  simp [h]
theorem lstAt_v {st : Store} {p : Addr} {xs : List D} (h : lk st p = some (.ol xs)) : lstAt st (.ob p) = some (p, xs) := by
  unfold lstAt
  simp [h]
theorem fldR_v {st : Store} {p : Addr} {c f : Str} {ks : List Str} {ds : List D} {d : D} (h : lk st p = some (.oi c ks ds)) (hf : fget f ks ds = some d) (ho : d.isOwn = false) : fldR c f st (.ob p) = .ok d := by
  unfold fldR
  rw [obAt_v h]
  show flatO (fget f ks ds) = _
  rw [hf]
  show (if d.isOwn = true then R.stuck else .ok d) = _
  rw [ho]
  rfl
theorem fldD_v {c f : Str} {ks : List Str} {ds : List D} {d : D} (hf : fget f ks ds = some d) : fldD c f (.inst c ks ds) = .ok d := by
  unfold fldD instAt
  simp [hf]
theorem setOut_v {st : Store} {p : Addr} {c f : Str} {ks : List Str} {ds : List D} {d : D} {σ : Sd} (h : lk st p = some (.oi c ks ds)) (hl : ks.length < 1000) : setOut c f d (.ob p) σ st = .fin (.next σ, upS p (.oi c (putK f ks) (putV f d ks ds)) st) := by
  unfold setOut
  rw [obAt_v h]
  exact if_pos hl
theorem methAt_v {st : Store} {p : Addr} {c x : Str} {ks : List Str} {ds : List D} (h : lk st p = some (.oi c ks ds)) (hx : x ∉ ks) : methAt c x st (.ob p) = true := by
  unfold methAt
  rw [obAt_v h]
  exact decide_eq_true hx
theorem methI_v {c x : Str} {ks : List Str} {ds : List D} (hx : x ∉ ks) : methI c x (.inst c ks ds) = true := by
  unfold methI instAt
  simp [hx]
theorem clean1_v {d : D} (h : pureD d = true) : clean1 d = .ok d := if_pos h
@[simp] theorem clean1_int (i : Int) : clean1 (.int i) = .ok (.int i) := rfl
@[simp] theorem clean1_bl (i : Bool) : clean1 (.bl i) = .ok (.bl i) := rfl
@[simp] theorem clean1_str (i : Str) : clean1 (.str i) = .ok (.str i) := rfl
@[simp] theorem clean1_non : clean1 .non = .ok .non := rfl
/-! ### expressions -/
@[simp] theorem mUp_v (f : DE) (σ : Sd) (st : Store) : mUp f σ st = .fin (f σ, st) := rfl
@[simp] theorem mUpT_v (f : Sd → R Bool) (σ : Sd) (st : Store) : mUpT f σ st = .fin (f σ, st) := rfl
@[simp] theorem mUpA_v (f : Sd → R (List D)) (σ : Sd) (st : Store) : mUpA f σ st = .fin (f σ, st) := rfl
@[simp] theorem mUpO_v (f : Sd → R (Option Int)) (σ : Sd) (st : Store) : mUpO f σ st = .fin (f σ, st) := rfl
@[simp] theorem mUpS_v (f : DS) (σ : Sd) (st : Store) : mUpS f σ st = .fin (f σ, st) := rfl
@[simp] theorem mView_v (f : DE) (σ : Sd) (st : Store) : mView f σ st = .fin (f (viewS st σ) >>= clean1, st) := rfl
@[simp] theorem mViewT_v (f : Sd → R Bool) (σ : Sd) (st : Store) : mViewT f σ st = .fin (f (viewS st σ), st) := rfl
@[simp] theorem mViewO_v (f : Sd → R (Option Int)) (σ : Sd) (st : Store) : mViewO f σ st = .fin (f (viewS st σ), st) := rfl
@[simp] theorem mRd_v (f : RE) (σ : Sd) (st : Store) : mRd f σ st = .fin (f σ st, st) := rfl
@[simp] theorem rUp_v (f : DE) (σ : Sd) (st : Store) : rUp f σ st = f σ := rfl
@[simp] theorem rView_v (f : DE) (σ : Sd) (st : Store) : rView f σ st = (f (viewS st σ) >>= clean1) := rfl
@[simp] theorem rFld_v (c f : Str) (fo : RE) (σ : Sd) (st : Store) : rFld c f fo σ st = (fo σ st >>= fldR c f st) := rfl
@[simp] theorem rNil_v (σ : Sd) (st : Store) : rNil σ st = .ok [] := rfl
@[simp] theorem rCons_v (f : RE) (g : Sd → Store → R (List D)) (σ : Sd) (st : Store) : rCons f g σ st = (f σ st >>= fun d => g σ st >>= fun ds => .ok (d :: ds)) := rfl
@[simp] theorem rOL_v (g : List D → R D) (fs : Sd → Store → R (List D)) (σ : Sd) (st : Store) : rOL g fs σ st = (fs σ st >>= fun ds => (g ds).quiet) := rfl
@[simp] theorem eFld_v (c f : Str) (fo : DE) (σ : Sd) : eFld c f fo σ = (fo σ >>= fldD c f) := rfl
@[simp] theorem eMeth_v (c x : Str) (m : List D → R D) (fo : DE) (fs : Sd → R (List D)) (σ : Sd) : eMeth c x m fo fs σ = (fo σ >>= fun d => if methI c x d = true then fs σ >>= fun ds => m (d :: ds) else .stuck) := rfl
@[simp] theorem mNil_v (σ : Sd) (st : Store) : mNil σ st = .fin (.ok [], st) := rfl
@[simp] theorem mCons_v (f : ME) (g : MA) (σ : Sd) (st : Store) : mCons f g σ st = bindM (f σ st) fun d st1 => bindM (g σ st1) fun ds st2 => .fin (.ok (d :: ds), st2) := rfl
@[simp] theorem mOL_v (g : List D → R D) (fs : MA) (σ : Sd) (st : Store) : mOL g fs σ st = bindM (fs σ st) fun ds st1 => .fin ((g ds).quiet, st1) := rfl
@[simp] theorem mO2_v (g : D → D → R D) (fa fb : ME) (σ : Sd) (st : Store) : mO2 g fa fb σ st = bindM (fa σ st) fun x st1 => bindM (fb σ st1) fun y st2 => .fin ((g x y).quiet, st2) := rfl
def asBM (d : D) (st : Store) : MR Bool := .fin (asB d, st)
@[simp] theorem mB_v (f : ME) (σ : Sd) (st : Store) : mB f σ st = bindM (f σ st) asBM := by
  unfold mB
  refine congrArg _ (funext fun d => funext fun s => ?_)
  cases d <;> rfl
@[simp] theorem asBM_bl (b : Bool) (st : Store) : asBM (.bl b) st = .fin (.ok b, st) := rfl
@[simp] theorem mAndT_v (fa fb : MT) (σ : Sd) (st : Store) : mAndT fa fb σ st = bindM (fa σ st) fun x st1 => if x = true then fb σ st1 else .fin (.ok false, st1) := rfl
@[simp] theorem mOrT_v (fa fb : MT) (σ : Sd) (st : Store) : mOrT fa fb σ st = bindM (fa σ st) fun x st1 => if x = true then .fin (.ok true, st1) else fb σ st1 := rfl
@[simp] theorem mNotT_v (fa : MT) (σ : Sd) (st : Store) : mNotT fa σ st = bindM (fa σ st) fun x st1 => .fin (.ok (!x), st1) := rfl
@[simp] theorem mIf_v (t : MT) (fa fb : ME) (σ : Sd) (st : Store) : mIf t fa fb σ st = bindM (t σ st) fun x st1 => if x = true then fa σ st1 else fb σ st1 := rfl
def andM (k : Store → MR D) : D → Store → MR D
  | .bl true, st => k st
  | .bl false, st => .fin (.ok (.bl false), st)
  | _, st => .fin (.stuck, st)
def orM (k : Store → MR D) : D → Store → MR D
  | .bl true, st => .fin (.ok (.bl true), st)
  | .bl false, st => k st
  | _, st => .fin (.stuck, st)
@[simp] theorem mAnd_v (fa fb : ME) (σ : Sd) (st : Store) : mAnd fa fb σ st = bindM (fa σ st) (andM (fb σ)) := by
  unfold mAnd
  refine congrArg _ (funext fun d => funext fun s => ?_)
  cases d <;> first | rfl | (rename_i b; cases b <;> rfl)
@[simp] theorem mOr_v (fa fb : ME) (σ : Sd) (st : Store) : mOr fa fb σ st = bindM (fa σ st) (orM (fb σ)) := by
  unfold mOr
  refine congrArg _ (funext fun d => funext fun s => ?_)
  cases d <;> first | rfl | (rename_i b; cases b <;> rfl)
@[simp] theorem andM_t (k : Store → MR D) (st : Store) : andM k (.bl true) st = k st := rfl
@[simp] theorem andM_f (k : Store → MR D) (st : Store) : andM k (.bl false) st = .fin (.ok (.bl false), st) := rfl
@[simp] theorem orM_t (k : Store → MR D) (st : Store) : orM k (.bl true) st = .fin (.ok (.bl true), st) := rfl
@[simp] theorem orM_f (k : Store → MR D) (st : Store) : orM k (.bl false) st = k st := rfl
theorem andM_b (b : Bool) (k : Store → MR D) (st : Store) : andM k (.bl b) st = if b = true then k st else .fin (.ok (.bl false), st) := by cases b <;> rfl
theorem orM_b (b : Bool) (k : Store → MR D) (st : Store) : orM k (.bl b) st = if b = true then .fin (.ok (.bl true), st) else k st := by cases b <;> rfl
@[simp] theorem mSl_v (fa : ME) (lo hi : Sd → Store → MR (Option Int)) (σ : Sd) (st : Store) : mSl fa lo hi σ st = bindM (fa σ st) fun x st1 => bindM (lo σ st1) fun l st2 => bindM (hi σ st2) fun u st3 => .fin ((slD x l u).quiet, st3) := rfl
@[simp] theorem mFld_v (c f : Str) (fo : ME) (σ : Sd) (st : Store) : mFld c f fo σ st = bindM (fo σ st) fun d st1 => .fin (fldR c f st1 d, st1) := rfl
@[simp] theorem mCall_v (m : List D → Store → MR D) (fs : MA) (σ : Sd) (st : Store) : mCall m fs σ st = bindM (fs σ st) fun ds st1 => m ds st1 := rfl
@[simp] theorem mCallV_v (m : List D → R D) (fs : MA) (σ : Sd) (st : Store) : mCallV m fs σ st = bindM (fs σ st) fun ds st1 => .fin (m (ds.map (vw st1)) >>= clean1, st1) := rfl
@[simp] theorem mMeth_v (c x : Str) (m : List D → Store → MR D) (fo : ME) (fs : MA) (σ : Sd) (st : Store) : mMeth c x m fo fs σ st = bindM (fo σ st) fun d st1 => if methAt c x st1 d = true then bindM (fs σ st1) fun ds st2 => m (d :: ds) st2 else .fin (.stuck, st1) := rfl
@[simp] theorem mMake_v (c : Str) (m : List D → Store → MR D) (fs : MA) (σ : Sd) (st : Store) : mMake c m fs σ st = bindM (fs σ st) fun ds st1 => .new fun p => if usedO st1 p = true then .no else (m (.ob p :: ds) ((p, .oi c [] []) :: st1)).bind (makeOut p) := rfl
@[simp] theorem makeOut_non (p : Addr) (st : Store) : makeOut p (.ok .non, st) = .fin (.ok (.ob p), st) := rfl
@[simp] theorem makeOut_exc (p : Addr) (c : Str) (st : Store) : makeOut p (.exc c, st) = .fin (.exc c, st) := rfl
@[simp] theorem eVr_0 (d : D) (σ : Sd) : eVr 0 (some d :: σ) = .ok d := rfl
@[simp] theorem eVr_s (i : Nat) (x : Option D) (σ : Sd) : eVr (i + 1) (x :: σ) = eVr i σ := rfl
def popK (c f : Str) (st : Store) : R D → MR D
  | .ok od => fpopAt c f st (ownList c f st od)
  | _ => .fin (.stuck, st)
@[simp] theorem mFPop_v (c f : Str) (i : Nat) (σ : Sd) (st : Store) : mFPop c f i σ st = popK c f st (eVr i σ) := by
  unfold mFPop popK
  cases eVr i σ <;> rfl
@[simp] theorem popK_ok (c f : Str) (st : Store) (d : D) : popK c f st (.ok d) = fpopAt c f st (ownList c f st d) := rfl
def ixLK (st : Store) (fi : R D) : R D → R D
  | .ok d => (match lstAt st d with
    | some (_, xs) => fi >>= ixLAt xs
    | none => .stuck)
  | _ => .stuck
@[simp] theorem rIxL_v (i : Nat) (fi : RE) (σ : Sd) (st : Store) : rIxL i fi σ st = ixLK st (fi σ st) (eVr i σ) := by
  unfold rIxL ixLK
  cases eVr i σ <;> rfl
theorem ixLK_v {st : Store} {p : Addr} {xs : List D} (h : lk st p = some (.ol xs)) (fi : R D) : ixLK st fi (.ok (.ob p)) = (fi >>= ixLAt xs) := by
  unfold ixLK
  simp [lstAt_v h]
@[simp] theorem ixLAt_i (xs : List D) (n : Int) : ixLAt xs (.int n) = ofO (L2.atI xs n) := rfl
/-! ### statements -/
def seqK (h : MS) : Out × Store → MO
  | (.next σ, s) => h σ s
  | r => .fin r
@[simp] theorem mSeq_v (g h : MS) (σ : Sd) (s : Store) : mSeq g h σ s = (g σ s).bind (seqK h) := by
  unfold mSeq
  refine congrArg _ (funext fun r => ?_)
  obtain ⟨o, s⟩ := r
  cases o <;> rfl
@[simp] theorem seqK_next (h : MS) (σ : Sd) (s : Store) : seqK h (.next σ, s) = h σ s := rfl
@[simp] theorem seqK_ret (h : MS) (d : D) (σ : Sd) (s : Store) : seqK h (.ret d σ, s) = .fin (.ret d σ, s) := rfl
@[simp] theorem seqK_exc (h : MS) (c : Str) (σ : Sd) (s : Store) : seqK h (.exc c σ, s) = .fin (.exc c σ, s) := rfl
@[simp] theorem mNl_v (σ : Sd) (s : Store) : mNl σ s = .fin (.next σ, s) := rfl
@[simp] theorem mClr_v (is : List Nat) (g : MS) (σ : Sd) (s : Store) : mClr is g σ s = g (clr is σ) s := rfl
@[simp] theorem mExpr_v (f : ME) (σ : Sd) (s : Store) : mExpr f σ s = bindO (f σ s) σ fun _ s1 => .fin (.next σ, s1) := rfl
@[simp] theorem mRet_v (f : ME) (σ : Sd) (s : Store) : mRet f σ s = bindO (f σ s) σ fun d s1 => .fin (.ret d σ, s1) := rfl
@[simp] theorem mSet_v (i : Nat) (f : ME) (σ : Sd) (s : Store) : mSet i f σ s = bindO (f σ s) σ fun d s1 => .fin (if i < σ.length then .next (σ.set i (some d)) else .stuck, s1) := rfl
@[simp] theorem mIfS_v (t : MT) (g h : MS) (σ : Sd) (s : Store) : mIfS t g h σ s = bindO (t σ s) σ fun b s1 => if b = true then g σ s1 else h σ s1 := rfl
@[simp] theorem mAsg_v (t : Tgt) (f : ME) (σ : Sd) (s : Store) : mAsg t f σ s = bindO (f σ s) σ fun d s1 => .fin ((t.put d σ).run fun σ' => .next σ', s1) := rfl
@[simp] theorem mFor_v (cl : List Nat) (t : Tgt) (fi : MI) (g : MS) (σ : Sd) (s : Store) : mFor cl t fi g σ s = bindO (fi σ s) σ fun ds s1 => forM cl t g ds σ s1 := rfl
@[simp] theorem mTry_v (names : List Str) (i j : Nat) (g : MS) (σ : Sd) (s : Store) : mTry names i j g σ s = (g σ s).bind (tryOut names i j) := rfl
@[simp] theorem tryOut_next (names : List Str) (i j : Nat) (σ : Sd) (s : Store) : tryOut names i j (.next σ, s) = .fin (.next σ, s) := rfl
@[simp] theorem tryOut_ret (names : List Str) (i j : Nat) (d : D) (σ : Sd) (s : Store) : tryOut names i j (.ret d σ, s) = .fin (.ret d σ, s) := rfl
@[simp] theorem tryOut_exc (names : List Str) (i j : Nat) (c : Str) (σ : Sd) (s : Store) : tryOut names i j (.exc c σ, s) = .fin (if c ∈ names ∧ i < σ.length ∧ j < σ.length then .next (((σ.set i (some (.exc c))).set j (some (.exc c))).set i none) else .stuck, s) := rfl
@[simp] theorem outM_next (σ : Sd) (s : Store) : outM (.next σ, s) = (.ok .non, s) := rfl
@[simp] theorem outM_ret (d : D) (σ : Sd) (s : Store) : outM (.ret d σ, s) = (.ok d, s) := rfl
@[simp] theorem outM_exc (c : Str) (σ : Sd) (s : Store) : outM (.exc c σ, s) = (.exc c, s) := rfl
@[simp] theorem mFldS_v (c f : Str) (fo : RE) (fv : ME) (σ : Sd) (st : Store) : mFldS c f fo fv σ st = bindO (fv σ st) σ fun d st1 => bindO (.fin (fo σ st1, st1)) σ fun od _ => setOut c f d od σ st1 := rfl
@[simp] theorem mFldO_v (c f : Str) (fo : RE) (fl : Sd → R (List D)) (σ : Sd) (st : Store) : mFldO c f fo fl σ st = bindO (.fin (fl σ, st)) σ fun xs st1 => bindO (.fin (fo σ st1, st1)) σ fun od _ => setOut c f (.ol xs) od σ st1 := rfl
def fappK (c f : Str) (σ : Sd) (st : Store) (fe : RE) : R D → MO
  | .ok od => fappAt c f σ st fe (ownList c f st od)
  | _ => .fin (.stuck, st)
@[simp] theorem mFApp_v (c f : Str) (i : Nat) (fe : RE) (σ : Sd) (st : Store) : mFApp c f i fe σ st = fappK c f σ st fe (eVr i σ) := by
  unfold mFApp fappK
  cases eVr i σ <;> rfl
@[simp] theorem fappK_ok (c f : Str) (σ : Sd) (st : Store) (fe : RE) (d : D) : fappK c f σ st fe (.ok d) = fappAt c f σ st fe (ownList c f st d) := rfl
@[simp] theorem fappAt_some (c f : Str) (σ : Sd) (st : Store) (fe : RE) (p : Addr) (ks : List Str) (ds xs : List D) : fappAt c f σ st fe (some (p, ks, ds, xs)) = bindO (.fin (fe σ st, st)) σ fun d _ => if xs.length < sizeLine then .fin (.next σ, upS p (.oi c ks (putV f (.ol (xs ++ [d])) ks ds)) st) else .fin (.stuck, st) := rfl
theorem ownList_v {st : Store} {p : Addr} {c f : Str} {ks : List Str} {ds xs : List D} (h : lk st p = some (.oi c ks ds)) (hf : fget f ks ds = some (.ol xs)) : ownList c f st (.ob p) = some (p, ks, ds, xs) := by
  unfold ownList
  rw [obAt_v h]
  simp [hf]
@[simp] theorem mNewL_v (i : Nat) (fl : Sd → R (List D)) (σ : Sd) (st : Store) : mNewL i fl σ st = bindO (.fin (fl σ, st)) σ fun ds _ => newLAt i σ st ds := rfl
@[simp] theorem newLAt_v (i : Nat) (σ : Sd) (st : Store) (ds : List D) : newLAt i σ st ds = .new fun p => if usedO st p = true then .no else .fin (if i < σ.length then .next (σ.set i (some (.ob p))) else .stuck, (p, .ol ds) :: st) := rfl
def setLK (σ : Sd) (st : Store) (fi : RE) (d : D) : R D → MO
  | .ok od => setLIf σ st fi d (lstAt st od)
  | _ => .fin (.stuck, st)
@[simp] theorem mSetIxL_v (i : Nat) (fi : RE) (fv : ME) (σ : Sd) (st : Store) : mSetIxL i fi fv σ st = bindO (fv σ st) σ fun d st1 => setLK σ st1 fi d (eVr i σ) := by
  unfold mSetIxL setLK
  refine congrArg _ (funext fun d => funext fun s => ?_)
  cases eVr i σ <;> rfl
theorem setLK_v {σ : Sd} {st : Store} {fi : RE} {d : D} {p : Addr} {xs : List D} {n : Int} {j : Nat} (h : lk st p = some (.ol xs)) (hi : fi σ st = .ok (.int n)) (hj : ixN xs.length n = some j) : setLK σ st fi d (.ok (.ob p)) = .fin (.next σ, upS p (.ol (xs.set j d)) st) := by
  show setLIf σ st fi d (lstAt st (.ob p)) = _
  rw [lstAt_v h]
  show bindO (.fin (fi σ st, st)) σ (fun k _ => setLAt σ st p xs d k) = _
  rw [hi]
  show setLAt σ st p xs d (.int n) = _
  unfold setLAt
  simp [hj]
@[simp] theorem runM_1 (N : Nat) (g : MS) (a : D) (st : Store) : runM 1 N g [a] st = (g (some a :: List.replicate (N - 1) none) st).bind fun r => .fin (outM r) := rfl
@[simp] theorem runM_2 (N : Nat) (g : MS) (a b : D) (st : Store) : runM 2 N g [a, b] st = (g (some a :: some b :: List.replicate (N - 2) none) st).bind fun r => .fin (outM r) := rfl
@[simp] theorem runM_3 (N : Nat) (g : MS) (a b c : D) (st : Store) : runM 3 N g [a, b, c] st = (g (some a :: some b :: some c :: List.replicate (N - 3) none) st).bind fun r => .fin (outM r) := rfl
@[simp] theorem runM_4 (N : Nat) (g : MS) (a b c d : D) (st : Store) : runM 4 N g [a, b, c, d] st = (g (some a :: some b :: some c :: some d :: List.replicate (N - 4) none) st).bind fun r => .fin (outM r) := rfl
@[simp] theorem runM_5 (N : Nat) (g : MS) (a b c d e : D) (st : Store) : runM 5 N g [a, b, c, d, e] st = (g (some a :: some b :: some c :: some d :: some e :: List.replicate (N - 5) none) st).bind fun r => .fin (outM r) := rfl
/-! ### ways through -/
@[simp] theorem all_fin_i {β : Type} (P : β → Prop) (b : β) : (T.fin b).all P ↔ P b := Iff.rfl
theorem all_new_i {P : R D × Store → Prop} {st : Store} {k : Addr → MR D} (h : ∀ p, usedO st p = false → (k p).all P) : (T.new fun p => if usedO st p = true then .no else k p).all P := fun p => by
  by_cases q : usedO st p = true
  · show (if usedO st p = true then T.no else k p).all P
    rw [if_pos q]; trivial
  · show (if usedO st p = true then T.no else k p).all P
    rw [if_neg q]; exact h p (by simpa using q)
theorem usedO_ne {st : Store} {p q : Addr} {d : D} (h : usedO st p = false) (hq : lk st q = some d) (hd : (∃ c ks ds, d = .oi c ks ds) ∨ ∃ xs, d = .ol xs) : p ≠ q := fun e => by
  subst e
  unfold usedO at h
  rw [hq] at h
  rcases hd with ⟨c, ks, ds, rfl⟩ | ⟨xs, rfl⟩ <;> cases h
/-! ### loops -/
def forLM {α : Type} (cl : List Nat) (step : α → Sd → Store → MO) : List α → Sd → Store → MO
  | [], σ, s => .fin (.next (clr cl σ), s)
  | a :: as, σ, s => (step a (clr cl σ) s).bind (loopM cl (forLM cl step as))
@[simp] theorem runM_ok (σ : Sd) (s : Store) (k : Sd → MO) : (R.ok σ).runM s k = k σ := rfl
theorem forM_L (cl : List Nat) (t : Tgt) (g : MS) : ∀ (ds : List D) (σ : Sd) (s : Store), forM cl t g ds σ s = forLM cl (fun d σ s => (t.put d σ).runM s fun σ1 => g σ1 s) ds σ s
  | [], _, _ => rfl
  | d :: ds, σ, s => by
    unfold forM forLM
    have e : forM cl t g ds = forLM cl (fun d σ s => (t.put d σ).runM s fun σ1 => g σ1 s) ds := funext fun σ => funext fun s => forM_L cl t g ds σ s
    rw [e]
    cases t.put d (clr cl σ) <;> rfl
theorem forLM_map {α β : Type} (cl : List Nat) (step : β → Sd → Store → MO) (f : α → β) : ∀ (xs : List α) (σ : Sd) (s : Store), forLM cl step (xs.map f) σ s = forLM cl (fun a => step (f a)) xs σ s
  | [], _, _ => rfl
  | x :: xs, σ, s => by
    rw [List.map_cons]
    unfold forLM
    have e : forLM cl step (xs.map f) = forLM cl (fun a => step (f a)) xs := funext fun σ => funext fun s => forLM_map cl step f xs σ s
    rw [e]
def NxpM (cl : List Nat) (I : Sd → Store → Prop) : Out × Store → Prop
  | (.next σ, s) => I (clr cl σ) s
  | (.cont σ, s) => I (clr cl σ) s
  | _ => False
@[simp] theorem NxpM_next (cl : List Nat) (I : Sd → Store → Prop) (σ : Sd) (s : Store) : NxpM cl I (.next σ, s) ↔ I (clr cl σ) s := Iff.rfl
@[simp] theorem NxpM_cont (cl : List Nat) (I : Sd → Store → Prop) (σ : Sd) (s : Store) : NxpM cl I (.cont σ, s) ↔ I (clr cl σ) s := Iff.rfl
@[simp] theorem NxpM_ret (cl : List Nat) (I : Sd → Store → Prop) (d : D) (σ : Sd) (s : Store) : NxpM cl I (.ret d σ, s) ↔ False := Iff.rfl
@[simp] theorem NxpM_exc (cl : List Nat) (I : Sd → Store → Prop) (c : Str) (σ : Sd) (s : Store) : NxpM cl I (.exc c σ, s) ↔ False := Iff.rfl
@[simp] theorem NxpM_stuck (cl : List Nat) (I : Sd → Store → Prop) (s : Store) : NxpM cl I (.stuck, s) ↔ False := Iff.rfl
/-- a loop, with what holds of the state; K behind it -/
theorem forLM_pre {α β : Type} {P : β → Prop} {cl : List Nat} {step : α → Sd → Store → MO} {K : Out × Store → T β} (I : List α → Sd → Store → Prop) {xs : List α} (hk : ∀ τ s, I xs τ s → (K (.next τ, s)).all P) : ∀ (post pre : List α) (σ : Sd) (s : Store), xs = pre ++ post → I pre (clr cl σ) s →
    (∀ pre a post, xs = pre ++ a :: post → ∀ τ s, I pre τ s → (step a τ s).all (NxpM cl (I (pre ++ [a])))) → ((forLM cl step post σ s).bind K).all P
  | [], pre, σ, s, e, i, _ => by
    rw [List.append_nil] at e
    subst e
    exact hk _ s i
  | a :: post, pre, σ, s, e, i, h => by
    unfold forLM
    rw [T.bind_assoc, T.all_bind]
    refine T.all_imp (fun r hr => ?_) (h pre a post e _ s i)
    obtain ⟨o, s1⟩ := r
    cases o with
    | next σ1 => exact forLM_pre I hk post (pre ++ [a]) σ1 s1 (by rw [e]; simp) hr h
    | cont σ1 => exact forLM_pre I hk post (pre ++ [a]) σ1 s1 (by rw [e]; simp) hr h
    | _ => exact hr.elim
theorem forLM_goal {α β : Type} {P : β → Prop} {cl : List Nat} {step : α → Sd → Store → MO} {K : Out × Store → T β} {xs : List α} {σ : Sd} {s : Store} (I : List α → Sd → Store → Prop) (h0 : I [] (clr cl σ) s)
    (h : ∀ pre a post, xs = pre ++ a :: post → ∀ τ s, I pre τ s → (step a τ s).all (NxpM cl (I (pre ++ [a])))) (hk : ∀ τ s, I xs τ s → (K (.next τ, s)).all P) : ((forLM cl step xs σ s).bind K).all P :=
  forLM_pre I hk xs [] σ s rfl h0 h
/-- the slots stay, the store changes -/
theorem forLM_goalS {α β : Type} {P : β → Prop} {cl : List Nat} {step : α → Sd → Store → MO} {K : Out × Store → T β} {xs : List α} {σ : Sd} {s : Store} (I : List α → Store → Prop) (hc : clr cl σ = σ) (h0 : I [] s)
    (h : ∀ pre a post, xs = pre ++ a :: post → ∀ s, I pre s → (step a σ s).all (NxpM cl fun τ s => τ = σ ∧ I (pre ++ [a]) s)) (hk : ∀ s, I xs s → (K (.next σ, s)).all P) : ((forLM cl step xs σ s).bind K).all P :=
  forLM_goal (fun pre τ s => τ = σ ∧ I pre s) ⟨hc, h0⟩ (fun pre a post e τ s ⟨e1, i⟩ => by rw [e1]; exact h pre a post e s i) fun τ s ⟨e1, i⟩ => by rw [e1]; exact hk s i
@[simp] theorem ite_bindT {β γ : Type} {p : Prop} [Decidable p] (a b : T β) (f : β → T γ) : (if p then a else b).bind f = if p then a.bind f else b.bind f := by split <;> rfl
@[simp] theorem ite_bindM {α β : Type} {p : Prop} [Decidable p] (a b : MR α) (f : α → Store → MR β) : bindM (if p then a else b) f = if p then bindM a f else bindM b f := by split <;> rfl
@[simp] theorem ite_bindOM {α : Type} {p : Prop} [Decidable p] (a b : MR α) (σ : Sd) (f : α → Store → MO) : bindO (if p then a else b) σ f = if p then bindO a σ f else bindO b σ f := by split <;> rfl
theorem forLM_all {α : Type} {P : Out × Store → Prop} {cl : List Nat} {step : α → Sd → Store → MO} {xs : List α} {σ : Sd} {s : Store} (I : List α → Sd → Store → Prop) (h0 : I [] (clr cl σ) s)
    (h : ∀ pre a post, xs = pre ++ a :: post → ∀ τ s, I pre τ s → (step a τ s).all (NxpM cl (I (pre ++ [a])))) (hk : ∀ τ s, I xs τ s → P (.next τ, s)) : (forLM cl step xs σ s).all P :=
  T.all_bind.mp (forLM_goal (K := T.fin) I h0 h fun τ s i => hk τ s i)
theorem forLM_allS {α : Type} {P : Out × Store → Prop} {cl : List Nat} {step : α → Sd → Store → MO} {xs : List α} {σ : Sd} {s : Store} (I : List α → Store → Prop) (hc : clr cl σ = σ) (h0 : I [] s)
    (h : ∀ pre a post, xs = pre ++ a :: post → ∀ s, I pre s → (step a σ s).all (NxpM cl fun τ s => τ = σ ∧ I (pre ++ [a]) s)) (hk : ∀ s, I xs s → P (.next σ, s)) : (forLM cl step xs σ s).all P :=
  T.all_bind.mp (forLM_goalS (K := T.fin) I hc h0 h fun s i => hk s i)
@[simp] theorem usedO_nil (p : Addr) : usedO [] p = false := rfl
def kM {α β : Type} (k : α → Store → MR β) : R α × Store → MR β
  | (.ok a, st) => k a st
  | (.exc c, st) => .fin (.exc c, st)
  | (.stuck, st) => .fin (.stuck, st)
def kO {α : Type} (σ : Sd) (k : α → Store → MO) : R α × Store → MO
  | (.ok a, st) => k a st
  | (.exc c, st) => .fin (.exc c σ, st)
  | (.stuck, st) => .fin (.stuck, st)
@[simp] theorem kM_ok {α β : Type} (k : α → Store → MR β) (a : α) (st : Store) : kM k (.ok a, st) = k a st := rfl
@[simp] theorem kM_exc {α β : Type} (k : α → Store → MR β) (c : Str) (st : Store) : kM k (.exc c, st) = .fin (.exc c, st) := rfl
@[simp] theorem kO_ok {α : Type} (σ : Sd) (k : α → Store → MO) (a : α) (st : Store) : kO σ k (.ok a, st) = k a st := rfl
@[simp] theorem kO_exc {α : Type} (σ : Sd) (k : α → Store → MO) (c : Str) (st : Store) : kO σ k (.exc c, st) = .fin (.exc c σ, st) := rfl
theorem all_bindM {α β : Type} {P : R β × Store → Prop} {t : MR α} {k : α → Store → MR β} : (bindM t k).all P ↔ t.all fun r => (kM k r).all P := by
  have e : bindM t k = t.bind (kM k) := by
    unfold bindM
    refine congrArg _ (funext fun r => ?_)
    obtain ⟨r, s⟩ := r
    cases r <;> rfl
  rw [e]
  exact T.all_bind
theorem all_bindO {α : Type} {P : Out × Store → Prop} {t : MR α} {σ : Sd} {k : α → Store → MO} : (bindO t σ k).all P ↔ t.all fun r => (kO σ k r).all P := by
  have e : bindO t σ k = t.bind (kO σ k) := by
    unfold bindO
    refine congrArg _ (funext fun r => ?_)
    obtain ⟨r, s⟩ := r
    cases r <;> rfl
  rw [e]
  exact T.all_bind
end FF
set_option maxHeartbeats 4000000
/-! what the denotations with told lambdas compute -/
namespace FF
open PySem PySem.Spec PyProof.Rows L2
@[simp] theorem mTold_v (names : List Str) (m : List D → R D) (f : ME) (σ : Sd) (st : Store) : mTold names m f σ st = (f σ st).bind (toldR names m) := rfl
@[simp] theorem toldR_ok (names : List Str) (m : List D → R D) (d : D) (st : Store) : toldR names m (.ok d, st) = .fin (.ok d, st) := rfl
def textM (st : Store) : R D → MR D
  | .ok (.str w) => .fin (.ok (.str w), st)
  | _ => .fin (.stuck, st)
@[simp] theorem textM_ok (st : Store) (w : Str) : textM st (.ok (.str w)) = .fin (.ok (.str w), st) := rfl
@[simp] theorem toldR_exc (names : List Str) (m : List D → R D) (c : Str) (st : Store) : toldR names m (.exc c, st) = if c ∈ names then textM st (m [.exc c]) else .fin (.stuck, st) := by
  show (if c ∈ names then _ else _) = _
  by_cases h : c ∈ names
  · rw [if_pos h, if_pos h]
    cases m [.exc c] with
    | ok d => cases d <;> rfl
    | exc c => rfl
    | stuck => rfl
  · rw [if_neg h, if_neg h]
@[simp] theorem mNewO_v (i : Nat) (fs : MA) (σ : Sd) (st : Store) : mNewO i fs σ st = bindO (fs σ st) σ fun ds st1 => .fin (if ds.length ≤ sizeLine ∧ i < σ.length then .next (σ.set i (some (.ol ds))) else .stuck, st1) := rfl
def olM (st : Store) (k : List D → MO) : Option (Option D) → MO
  | some (some (.ol xs)) => k xs
  | _ => .fin (.stuck, st)
@[simp] theorem olM_ol (st : Store) (k : List D → MO) (xs : List D) : olM st k (some (some (.ol xs))) = k xs := rfl
@[simp] theorem mAppO_v (i : Nat) (f : ME) (σ : Sd) (st : Store) : mAppO i f σ st = olM st (fun xs => bindO (f σ st) σ fun d st1 => .fin (if xs.length < sizeLine then .next (σ.set i (some (.ol (xs ++ [d])))) else .stuck, st1)) σ[i]? := by
  unfold mAppO olM
  generalize σ[i]? = o
  rcases o with _ | _ | d
  · rfl
  · rfl
  · cases d <;> rfl
@[simp] theorem mFrz_v (i : Nat) (g : MS) (σ : Sd) (st : Store) : mFrz i g σ st = olM st (fun xs => g (σ.set i (some (.lst xs))) st) σ[i]? := by
  unfold mFrz olM
  generalize σ[i]? = o
  rcases o with _ | _ | d
  · rfl
  · rfl
  · cases d <;> rfl
end FF
set_option maxHeartbeats 0
namespace FF
open PySem PySem.Spec PyProof.Rows L2
def top (i : Nat) : Stmt := PySem.Challenge.pw_fourfold_k06_measures_refused.main.body.getD i (.Pass ⟨0, 0, 0, 0⟩)
def cs : List Str := ["NoPicture", "NoSpot", "BadBox", "Unlike", "NoRule", "NoBlocks", "NoChange", "NoNumber", "NothingDone", "NoText", "NoName"]
def k_SIDES : List D := [.int 1, .int 2, .int 4, .int 8]
def b_is_worth : DS := (sRet (eAnd (eIsi "int" (eV 0)) (eAnd (eO1 notD (eIsi "bool" (eV 0))) (eChain leD leD (eK (.int 0)) (eV 0) (eK (.int 9))))))
def m_is_worth : List D → R D := runD 1 1 b_is_worth
def b_is_tree (self : List D → R D) : DS := (sCons (sIf (tB1 (eCall m_is_worth (aCons (eV 0) aNil)))
  (sRet (eK (.bl true)))
  sNil)
 (sCons (sIf (tOrD (tB1 (eO2 eqD (eV 1) (eK (.int 0)))) (tOrD (tNotD (tB1 (eIsi "tuple" (eV 0)))) (tB1 (eO2 neD (eOL lenD (aCons (eV 0) aNil)) (eK (.int 4))))))
  (sRet (eK (.bl false)))
  sNil)
 (sRet (eOL allD (aCons (eLc [2] (.nm 2) tYesD (eCall self (aCons (eV 2) (aCons (eO2 subD (eV 1) (eK (.int 1))) aNil))) (iSeq (eV 0))) aNil)))))
def m_is_tree : Nat → List D → R D
  | 0 => fun _ => .stuck
  | r + 1 => runD 2 3 (b_is_tree (m_is_tree r))
def b_is_picture : DS := (sCons (sIf (tOrD (tNotD (tB1 (eIsi "tuple" (eV 0)))) (tB1 (eO2 neD (eOL lenD (aCons (eV 0) aNil)) (eK (.int 2)))))
  (sRet (eK (.bl false)))
  sNil)
 (sCons (sSet 1 (eO2 ixD (eV 0) (eK (.int 0))))
 (sCons (sIf (tOrD (tNotD (tB1 (eIsi "int" (eV 1)))) (tOrD (tB1 (eIsi "bool" (eV 1))) (tNotD (tB1 (eChain leD ltD (eK (.int 0)) (eV 1) (eOL lenD (aCons (eK (.tup k_SIDES)) aNil)))))))
  (sRet (eK (.bl false)))
  sNil)
 (sRet (eCall (m_is_tree 8) (aCons (eO2 ixD (eV 0) (eK (.int 1))) (aCons (eV 1) aNil)))))))
def m_is_picture : List D → R D := runD 1 2 b_is_picture
def b_look_picture : DS := (sIf (tNotD (tB1 (eCall m_is_picture (aCons (eV 0) aNil))))
  (sRaise "NoPicture")
  sNil)
def m_look_picture : List D → R D := runD 1 1 b_look_picture
def b_quarter : DS := (sRet (eIf (tB1 (eIsi "tuple" (eV 0))) (eO2 ixD (eV 0) (eV 1)) (eV 0)))
def m_quarter : List D → R D := runD 2 2 b_quarter
def b_four : DS := (sCons (sIf (tAndD (tNotD (tB1 (eIsi "tuple" (eO2 ixD (eV 0) (eK (.int 0)))))) (tB1 (eOL allD (aCons (eLc [1] (.nm 1) tYesD (eO2 eqD (eV 1) (eO2 ixD (eV 0) (eK (.int 0)))) (iSeq (eV 0))) aNil))))
  (sRet (eO2 ixD (eV 0) (eK (.int 0))))
  sNil)
 (sRet (eOL tupleD (aCons (eV 0) aNil))))
def m_four : List D → R D := runD 1 2 b_four
def b_rows_in (self : List D → R D) : DS := (sCons (sIf (tB1 (eO2 eqD (eV 0) (eK (.int 0))))
  (sRet (eOL mkLst (aCons (eOL mkLst (aCons (eV 1) aNil)) aNil)))
  sNil)
 (sCons (sSet 2 (eLc [4] (.nm 4) tYesD (eCall self (aCons (eO2 subD (eV 0) (eK (.int 1))) (aCons (eCall m_quarter (aCons (eV 1) (aCons (eV 4) aNil))) aNil))) (iRange1 (eK (.int 4)))))
 (sCons (sSet 3 (eLc [5, 6] (.tp [.nm 5, .nm 6]) tYesD (eO2 addD (eV 5) (eV 6)) (iZipD (eO2 ixD (eV 2) (eK (.int 0))) (eO2 ixD (eV 2) (eK (.int 1))))))
 (sRet (eO2 addD (eV 3) (eLc [5, 6] (.tp [.nm 5, .nm 6]) tYesD (eO2 addD (eV 5) (eV 6)) (iZipD (eO2 ixD (eV 2) (eK (.int 2))) (eO2 ixD (eV 2) (eK (.int 3))))))))))
def m_rows_in : Nat → List D → R D
  | 0 => fun _ => .stuck
  | r + 1 => runD 2 7 (b_rows_in (m_rows_in r))
def b_shown_rows : DS := (sCons (sExpr (eCall m_look_picture (aCons (eV 0) aNil)))
 (sRet (eOL tupleD (aCons (eLc [1] (.nm 1) tYesD (eOL tupleD (aCons (eV 1) aNil)) (iSeq (eCall (m_rows_in 8) (aCons (eO2 ixD (eV 0) (eK (.int 0))) (aCons (eO2 ixD (eV 0) (eK (.int 1))) aNil))))) aNil))))
def m_shown_rows : List D → R D := runD 1 2 b_shown_rows
def b_tree_of (self : List D → R D) : DS := (sCons (sIf (tB1 (eO2 eqD (eV 3) (eK (.int 0))))
  (sRet (eO2 ixD (eO2 ixD (eV 0) (eV 2)) (eV 1)))
  sNil)
 (sCons (sSet 4 (eO2 ixD (eK (.tup k_SIDES)) (eO2 subD (eV 3) (eK (.int 1)))))
 (sCons (sSet 5 (eOL mkLst (aCons (eOL mkTup (aCons (eV 1) (aCons (eV 2) aNil))) (aCons (eOL mkTup (aCons (eO2 addD (eV 1) (eV 4)) (aCons (eV 2) aNil))) (aCons (eOL mkTup (aCons (eV 1) (aCons (eO2 addD (eV 2) (eV 4)) aNil))) (aCons (eOL mkTup (aCons (eO2 addD (eV 1) (eV 4)) (aCons (eO2 addD (eV 2) (eV 4)) aNil))) aNil))))))
 (sRet (eCall m_four (aCons (eLc [6] (.nm 6) tYesD (eCall self (aCons (eV 0) (aCons (eO2 ixD (eV 6) (eK (.int 0))) (aCons (eO2 ixD (eV 6) (eK (.int 1))) (aCons (eO2 subD (eV 3) (eK (.int 1))) aNil))))) (iSeq (eV 5))) aNil))))))
def m_tree_of : Nat → List D → R D
  | 0 => fun _ => .stuck
  | r + 1 => runD 4 7 (b_tree_of (m_tree_of r))
def b_of_rows : DS := (sCons (sIf (tOrD (tNotD (tB1 (eIsi "tuple" (eV 0)))) (tB1 (eO2 (inD true) (eOL lenD (aCons (eV 0) aNil)) (eK (.tup k_SIDES)))))
  (sRaise "NoPicture")
  sNil)
 (sCons (sFor [1] (.nm 1) (iSeq (eV 0))
  (sIf (tOrD (tNotD (tB1 (eIsi "tuple" (eV 1)))) (tOrD (tB1 (eO2 neD (eOL lenD (aCons (eV 1) aNil)) (eOL lenD (aCons (eV 0) aNil)))) (tNotD (tB1 (eOL allD (aCons (eLc [3] (.nm 3) tYesD (eCall m_is_worth (aCons (eV 3) aNil)) (iSeq (eV 1))) aNil))))))
  (sRaise "NoPicture")
  sNil))
 (sCons (sSet 2 (eMtG idxK k_SIDES (eOL lenD (aCons (eV 0) aNil))))
 (sRet (eOL mkTup (aCons (eV 2) (aCons (eCall (m_tree_of 8) (aCons (eV 0) (aCons (eK (.int 0)) (aCons (eK (.int 0)) (aCons (eV 2) aNil))))) aNil)))))))
def m_of_rows : List D → R D := runD 1 4 b_of_rows
def b_look_worth : DS := (sIf (tNotD (tB1 (eCall m_is_worth (aCons (eV 0) aNil))))
  (sRaise "NoPicture")
  sNil)
def m_look_worth : List D → R D := runD 1 1 b_look_worth
def b_worths_in : DS := (sCons (sSetO 1 (nLst aNil))
 (sCons (sFor [2] (.nm 2) (iSeq (eCall m_shown_rows (aCons (eV 0) aNil)))
  (sExt 1 (eOL listD (aCons (eV 2) aNil))))
 (sFrz 1 (sRet (eSortSet (eV 1))))))
def m_worths_in : List D → R D := runD 1 3 b_worths_in
def b_box_of : DS := (sCons (sSetO 2 (nLst aNil))
 (sCons (sFor [3, 4] (.tp [.nm 3, .nm 4]) (iEnumD (eCall m_shown_rows (aCons (eV 0) aNil)))
  (sExt 2 (eLc [7, 8] (.tp [.nm 7, .nm 8]) (tB1 (eO2 eqD (eV 8) (eV 1))) (eOL mkTup (aCons (eV 7) (aCons (eV 3) aNil))) (iEnumD (eV 4)))))
 (sFrz 2 (sCons (sExpr (eCall m_look_worth (aCons (eV 1) aNil)))
 (sCons (sIf (tB1 (eO2 eqD (eV 2) (eOL mkLst aNil)))
  (sRet (eK .non))
  sNil)
 (sCons (sPar 5 6 (eOL minD1 (aCons (eLc [7, 3] (.tp [.nm 7, .nm 3]) tYesD (eV 7) (iSeq (eV 2))) aNil)) (eOL minD1 (aCons (eLc [7, 3] (.tp [.nm 7, .nm 3]) tYesD (eV 3) (iSeq (eV 2))) aNil)))
 (sRet (eOL mkTup (aCons (eV 5) (aCons (eV 6) (aCons (eO2 addD (eO2 subD (eOL maxD1 (aCons (eLc [7, 3] (.tp [.nm 7, .nm 3]) tYesD (eV 7) (iSeq (eV 2))) aNil)) (eV 5)) (eK (.int 1))) (aCons (eO2 addD (eO2 subD (eOL maxD1 (aCons (eLc [7, 3] (.tp [.nm 7, .nm 3]) tYesD (eV 3) (iSeq (eV 2))) aNil)) (eV 6)) (eK (.int 1))) aNil))))))))))))
def m_box_of : List D → R D := runD 2 9 b_box_of
def b_runs_in : DS := (sCons (sSet 2 (eCall m_shown_rows (aCons (eV 0) aNil)))
 (sCons (sIf (tOrD (tNotD (tB1 (eIsi "int" (eV 1)))) (tOrD (tB1 (eIsi "bool" (eV 1))) (tNotD (tB1 (eChain leD ltD (eK (.int 0)) (eV 1) (eOL lenD (aCons (eV 2) aNil)))))))
  (sRaise "NoSpot")
  sNil)
 (sCons (sSetO 3 (nLst aNil))
 (sCons (sFor [4] (.nm 4) (iSeq (eO2 ixD (eV 2) (eV 1)))
  (sIf (tBor 3 (tAndD (tB1 (eO2 neD (eV 3) (eOL mkLst aNil))) (tB1 (eO2 eqD (eO2 ixD (eO2 ixD (eV 3) (eO1 negD (eK (.int 1)))) (eK (.int 0))) (eV 4)))))
  (sSetIx 3 (eO1 negD (eK (.int 1))) (eOL mkTup (aCons (eV 4) (aCons (eO2 addD (eO2 ixD (eIxO 3 (eO1 negD (eK (.int 1)))) (eK (.int 1))) (eK (.int 1))) aNil))))
  (sApp 3 (eOL mkTup (aCons (eV 4) (aCons (eK (.int 1)) aNil))))))
 (sFrz 3 (sRet (eV 3)))))))
def m_runs_in : List D → R D := runD 2 5 b_runs_in
def b_like_rows : DS := (sCons (sSet 1 (eCall m_shown_rows (aCons (eV 0) aNil)))
 (sCons (sSetO 2 (nLst aNil))
 (sCons (sFor [3] (.nm 3) (iRange1 (eOL lenD (aCons (eV 1) aNil)))
  (sExt 2 (eLc [4] (.nm 4) (tB1 (eO2 eqD (eO2 ixD (eV 1) (eV 3)) (eO2 ixD (eV 1) (eV 4)))) (eOL mkTup (aCons (eV 3) (aCons (eV 4) aNil))) (iRange2 (eO2 addD (eV 3) (eK (.int 1))) (eOL lenD (aCons (eV 1) aNil))))))
 (sFrz 2 (sRet (eV 2))))))
def m_like_rows : List D → R D := runD 1 5 b_like_rows
def b_rolled : DS := (sCons (sSet 3 (eCall m_shown_rows (aCons (eV 0) aNil)))
 (sCons (sSet 4 (eOL lenD (aCons (eV 3) aNil)))
 (sCons (sSetO 5 (nLst aNil))
 (sCons (sFor [6, 7] (.nm 6) (iRange1 (eV 4))
  (sCons (sSet 7 (eO2 ixD (eV 3) (eO2 modD (eO2 subD (eV 6) (eV 2)) (eV 4))))
 (sApp 5 (eOL tupleD (aCons (eLc [8] (.nm 8) tYesD (eO2 ixD (eV 7) (eO2 modD (eO2 subD (eV 8) (eV 1)) (eV 4))) (iRange1 (eV 4))) aNil)))))
 (sFrz 5 (sRet (eCall m_of_rows (aCons (eOL tupleD (aCons (eV 5) aNil)) aNil))))))))
def m_rolled : List D → R D := runD 3 9 b_rolled
def b_framed : DS := (sCons (sExpr (eCall m_look_picture (aCons (eV 0) aNil)))
 (sCons (sExpr (eCall m_look_worth (aCons (eV 1) aNil)))
 (sCons (sSet 2 (eCall m_shown_rows (aCons (eV 0) aNil)))
 (sCons (sSet 3 (eO2 ixD (eK (.tup k_SIDES)) (eO2 ixD (eV 0) (eK (.int 0)))))
 (sCons (sSetO 4 (nLst aNil))
 (sCons (sFor [5, 6] (.nm 5) (iRange1 (eV 3))
  (sCons (sSet 6 (eO2 (inD false) (eV 5) (eOL mkTup (aCons (eK (.int 0)) (aCons (eO2 subD (eV 3) (eK (.int 1))) aNil)))))
 (sApp 4 (eOL tupleD (aCons (eLc [7] (.nm 7) tYesD (eIf (tOrD (tB1 (eV 6)) (tB1 (eO2 (inD false) (eV 7) (eOL mkTup (aCons (eK (.int 0)) (aCons (eO2 subD (eV 3) (eK (.int 1))) aNil)))))) (eV 1) (eO2 ixD (eO2 ixD (eV 2) (eV 5)) (eV 7))) (iRange1 (eV 3))) aNil)))))
 (sFrz 4 (sRet (eCall m_of_rows (aCons (eOL tupleD (aCons (eV 4) aNil)) aNil))))))))))
def m_framed : List D → R D := runD 2 8 b_framed
def b__law_cell : DS := (sCons (sIf (tB1 (eO2 ltD (eV 1) (eOL lenD (aCons (eV 0) aNil))))
  (sRet (eO2 ixD (eV 0) (eV 1)))
  sNil)
 (sCons (sIf (tB1 (eO2 eqD (eV 0) (eOL mkLst aNil)))
  (sRet (eK (.int 0)))
  sNil)
 (sRet (eO2 addD (eO2 mulD (eO2 ixD (eV 0) (eO2 modD (eV 1) (eOL lenD (aCons (eV 0) aNil)))) (eK (.int 31))) (eV 1)))))
def m__law_cell : List D → R D := runD 2 2 b__law_cell
def b__law_pick : DS := (sCons (sSet 3 (eO2 modD (eO2 mulD (eO2 addD (eCall m__law_cell (aCons (eV 0) (aCons (eV 1) aNil))) (eO2 mulD (eK (.int 6151)) (eO2 addD (eV 1) (eK (.int 1))))) (eK (.int 40692))) (eK (.int 2147483399))))
 (sRet (eO2 modD (eO2 modD (eO2 addD (eO2 mulD (eV 3) (eV 3)) (eO2 fdivD (eV 3) (eK (.int 31)))) (eK (.int 2147483629))) (eV 2))))
def m__law_pick : List D → R D := runD 3 4 b__law_pick
def b__law_class : DS := (sCons (sSetO 1 (nLst (aCons (eIsE (tblE cs "BadBox") (eV 0)) (aCons (eIsE (tblE cs "NoBlocks") (eV 0)) (aCons (eIsE (tblE cs "NoChange") (eV 0)) aNil)))))
 (sCons (sExt 1 (eOL mkLst (aCons (eIsE (tblE cs "NoName") (eV 0)) aNil)))
 (sFrz 1 (sCons (sSet 1 (eO2 addD (eV 1) (eOL mkLst (aCons (eIsE (tblE cs "NoNumber") (eV 0)) (aCons (eIsE (tblE cs "NoPicture") (eV 0)) (aCons (eIsE (tblE cs "NoRule") (eV 0)) aNil))))))
 (sCons (sSet 1 (eO2 addD (eV 1) (eOL mkLst (aCons (eIsE (tblE cs "NoSpot") (eV 0)) (aCons (eIsE (tblE cs "NoText") (eV 0)) (aCons (eIsE (tblE cs "NothingDone") (eV 0)) aNil))))))
 (sCons (sSet 1 (eO2 addD (eV 1) (eOL mkLst (aCons (eIsE (tblE cs "Unlike") (eV 0)) aNil))))
 (sCons (sIf (tOrD (tB1 (eO2 neD (eMtL cntK (eV 1) (eK (.bl true))) (eK (.int 1)))) (tNotD (tB1 (eIsE (tblV cs) (eV 0)))))
  (sRet (eK (.str "wrong")))
  sNil)
 (sCons (sSetO 2 (nLst (aCons (eK (.str "bad box")) (aCons (eK (.str "no blocks")) (aCons (eK (.str "no change")) (aCons (eK (.str "no name")) (aCons (eK (.str "no number")) (aCons (eK (.str "no picture")) (aCons (eK (.str "no rule")) aNil)))))))))
 (sCons (sExt 2 (eOL mkLst (aCons (eK (.str "no spot")) (aCons (eK (.str "no text")) aNil))))
 (sFrz 2 (sRet (eO2 ixD (eO2 addD (eV 2) (eOL mkLst (aCons (eK (.str "nothing done")) (aCons (eK (.str "unlike")) aNil)))) (eMtL idxK (eV 1) (eK (.bl true)))))))))))))))
def m__law_class : List D → R D := runD 1 3 b__law_class
def b_law : MS := (mSeq (mUpS (sSetO 1 (nLst (aCons (eK .non) (aCons (eOL mkTup aNil) (aCons (eOL mkTup (aCons (eK (.int 4)) (aCons (eK (.int 0)) aNil))) (aCons (eOL mkTup (aCons (eK (.int 0)) (aCons (eOL mkTup (aCons (eK (.int 1)) (aCons (eK (.int 1)) (aCons (eK (.int 1)) (aCons (eK (.int 1)) aNil))))) aNil))) (aCons (eOL mkTup (aCons (eK (.int 1)) (aCons (eOL mkTup (aCons (eK (.int 1)) (aCons (eK (.int 1)) (aCons (eK (.int 1)) aNil)))) aNil))) (aCons (eOL mkLst (aCons (eK (.int 0)) (aCons (eK (.int 1)) aNil))) (aCons (eOL mkTup (aCons (eK (.bl true)) (aCons (eK (.int 1)) aNil))) (aCons (eOL mkTup (aCons (eK (.int 1)) (aCons (eK (.int 10)) aNil))) (aCons (eOL mkTup (aCons (eK (.int 0)) (aCons (eK (.bl true)) aNil))) aNil))))))))))))
 (mSeq (mUpS (sExt 1 (eOL mkLst (aCons (eOL mkTup (aCons (eK (.int 2)) (aCons (eOL mkTup (aCons (eOL mkTup (aCons (eK (.int 1)) (aCons (eK (.int 2)) (aCons (eK (.int 3)) (aCons (eO1 negD (eK (.int 1))) aNil))))) (aCons (eK (.int 0)) (aCons (eK (.int 0)) (aCons (eK (.int 0)) aNil))))) aNil))) aNil))))
 (mFrz 1 (mSeq (mUpS (sSet 2 (eOL mkLst (aCons (eK .non) (aCons (eO1 negD (eK (.int 1))) (aCons (eK (.int 10)) (aCons (eK (.bl true)) (aCons (eK (.str "1")) (aCons (eOL mkTup (aCons (eK (.int 0)) aNil)) (aCons (eOL mkLst (aCons (eK (.int 1)) aNil)) (aCons (eK (.int 99)) aNil)))))))))))
 (mSeq (mUpS (sSet 3 (eOL mkTup (aCons (eK (.int 1)) (aCons (eOL mkTup (aCons (eK (.int 1)) (aCons (eK (.int 2)) (aCons (eK (.int 3)) (aCons (eK (.int 3)) aNil))))) aNil)))))
 (mSeq (mFor [4, 5, 6, 7] (.nm 4) (mUpA (iRange1 (eK (.int 4))))
  (mSeq (mUpS (sSet 5 (eO2 ixD (eV 1) (eO2 modD (eO2 addD (eCall m__law_pick (aCons (eV 0) (aCons (eK (.int 0)) (aCons (eK (.int 10)) aNil)))) (eO2 mulD (eK (.int 3)) (eV 4))) (eK (.int 10))))))
 (mSeq (mUpS (sSet 6 (eO2 ixD (eV 2) (eO2 modD (eO2 addD (eCall m__law_pick (aCons (eV 0) (aCons (eK (.int 1)) (aCons (eK (.int 8)) aNil)))) (eO2 mulD (eK (.int 3)) (eV 4))) (eK (.int 8))))))
 (mSeq (mNewO 7 (mCons (mTold cs m__law_class (mUp (eCall m_worths_in (aCons (eV 5) aNil)))) mNil))
 (mSeq (mAppO 7 (mTold cs m__law_class (mUp (eCall m_box_of (aCons (eV 5) (aCons (eV 6) aNil))))))
 (mSeq (mAppO 7 (mTold cs m__law_class (mUp (eCall m_box_of (aCons (eV 3) (aCons (eV 6) aNil))))))
 (mSeq (mAppO 7 (mTold cs m__law_class (mUp (eCall m_runs_in (aCons (eV 5) (aCons (eV 6) aNil))))))
 (mSeq (mAppO 7 (mTold cs m__law_class (mUp (eCall m_like_rows (aCons (eV 5) aNil)))))
 (mSeq (mAppO 7 (mTold cs m__law_class (mUp (eCall m_rolled (aCons (eV 5) (aCons (eK (.int 1)) (aCons (eK (.int 1)) aNil)))))))
 (mSeq (mAppO 7 (mTold cs m__law_class (mUp (eCall m_framed (aCons (eV 5) (aCons (eV 6) aNil))))))
 (mSeq (mAppO 7 (mTold cs m__law_class (mUp (eCall m_framed (aCons (eV 3) (aCons (eV 6) aNil))))))
 (mFrz 7 (mSeq (mUpS (sIf (tB1 (eO2 neD (eV 7) (eO2 mulD (eOL mkLst (aCons (eK (.str "no picture")) aNil)) (eK (.int 8)))))
  (sRet (eK (.bl false)))
  sNil))
 (mSeq (mIfS (mB (mO2 neD (mTold cs m__law_class (mUp (eCall m_runs_in (aCons (eV 3) (aCons (eV 6) aNil))))) (mUp (eK (.str "no spot")))))
  (mUpS (sRet (eK (.bl false))))
  (mUpS sNil))
 (mIfS (mB (mO2 neD (mTold cs m__law_class (mUp (eCall m_runs_in (aCons (eOL mkTup (aCons (eK (.int 0)) (aCons (eK (.int 5)) aNil))) (aCons (eK (.int 1)) aNil))))) (mUp (eK (.str "no spot")))))
  (mUpS (sRet (eK (.bl false))))
  (mUpS sNil))))))))))))))))
 (mUpS (sRet (eAnd (eO2 eqD (eCall m_runs_in (aCons (eV 3) (aCons (eK (.int 1)) aNil))) (eOL mkLst (aCons (eOL mkTup (aCons (eK (.int 3)) (aCons (eK (.int 2)) aNil))) aNil))) (eAnd (eO2 eqD (eCall m_box_of (aCons (eV 3) (aCons (eK (.int 3)) aNil))) (eOL mkTup (aCons (eK (.int 0)) (aCons (eK (.int 1)) (aCons (eK (.int 2)) (aCons (eK (.int 1)) aNil)))))) (eO2 isD (eCall m_box_of (aCons (eV 3) (aCons (eK (.int 0)) aNil))) (eK .non))))))))))))
def m_law : List D → Store → MR D := runM 1 8 b_law
def dd_is_worth : He.DefD := ⟨("is_worth", none), "is_worth", "is_worth", defArgs (top 16), defBody (top 16), defScope (top 16), [], []⟩
def dd_is_tree : He.DefD := ⟨("is_tree", none), "is_tree", "is_tree", defArgs (top 17), defBody (top 17), defScope (top 17), [], []⟩
def dd_is_picture : He.DefD := ⟨("is_picture", none), "is_picture", "is_picture", defArgs (top 18), defBody (top 18), defScope (top 18), [], []⟩
def dd_look_picture : He.DefD := ⟨("look_picture", none), "look_picture", "look_picture", defArgs (top 19), defBody (top 19), defScope (top 19), [], []⟩
def dd_quarter : He.DefD := ⟨("quarter", none), "quarter", "quarter", defArgs (top 20), defBody (top 20), defScope (top 20), [], []⟩
def dd_four : He.DefD := ⟨("four", none), "four", "four", defArgs (top 21), defBody (top 21), defScope (top 21), [], []⟩
def dd_rows_in : He.DefD := ⟨("rows_in", none), "rows_in", "rows_in", defArgs (top 22), defBody (top 22), defScope (top 22), [], []⟩
def dd_shown_rows : He.DefD := ⟨("shown_rows", none), "shown_rows", "shown_rows", defArgs (top 23), defBody (top 23), defScope (top 23), [], []⟩
def dd_tree_of : He.DefD := ⟨("tree_of", none), "tree_of", "tree_of", defArgs (top 24), defBody (top 24), defScope (top 24), [], []⟩
def dd_of_rows : He.DefD := ⟨("of_rows", none), "of_rows", "of_rows", defArgs (top 25), defBody (top 25), defScope (top 25), [], []⟩
def dd_look_worth : He.DefD := ⟨("look_worth", none), "look_worth", "look_worth", defArgs (top 27), defBody (top 27), defScope (top 27), [], []⟩
def dd_worths_in : He.DefD := ⟨("worths_in", none), "worths_in", "worths_in", defArgs (top 29), defBody (top 29), defScope (top 29), [], []⟩
def dd_box_of : He.DefD := ⟨("box_of", none), "box_of", "box_of", defArgs (top 30), defBody (top 30), defScope (top 30), [], []⟩
def dd_runs_in : He.DefD := ⟨("runs_in", none), "runs_in", "runs_in", defArgs (top 31), defBody (top 31), defScope (top 31), [], []⟩
def dd_like_rows : He.DefD := ⟨("like_rows", none), "like_rows", "like_rows", defArgs (top 32), defBody (top 32), defScope (top 32), [], []⟩
def dd_rolled : He.DefD := ⟨("rolled", none), "rolled", "rolled", defArgs (top 33), defBody (top 33), defScope (top 33), [], []⟩
def dd_framed : He.DefD := ⟨("framed", none), "framed", "framed", defArgs (top 34), defBody (top 34), defScope (top 34), [], []⟩
def dd__law_cell : He.DefD := ⟨("_law_cell", none), "_law_cell", "_law_cell", defArgs (top 36), defBody (top 36), defScope (top 36), [], []⟩
def dd__law_pick : He.DefD := ⟨("_law_pick", none), "_law_pick", "_law_pick", defArgs (top 37), defBody (top 37), defScope (top 37), [], []⟩
def dd__law_class : He.DefD := ⟨("_law_class", none), "_law_class", "_law_class", defArgs (top 38), defBody (top 38), defScope (top 38), [], []⟩
def dd__law_told : He.DefD := ⟨("_law_told", none), "_law_told", "_law_told", defArgs (top 39), defBody (top 39), defScope (top 39), [], []⟩
def dd_law : He.DefD := ⟨("law", none), "law", "law", defArgs (top 40), defBody (top 40), defScope (top 40), [], []⟩
def fn0 : List He.DefD := [dd_is_worth, dd_is_tree, dd_is_picture, dd_look_picture, dd_quarter, dd_four, dd_rows_in, dd_shown_rows, dd_tree_of, dd_of_rows, dd_look_worth, dd_worths_in, dd_box_of, dd_runs_in, dd_like_rows, dd_rolled, dd_framed, dd__law_cell, dd__law_pick, dd__law_class]
def fn1 : List He.DefD := [dd__law_told, dd_law]
def fn : List He.DefD := fn0 ++ (fn1)
def fa0 : List He.Fa := [.glo "is_worth", .glo "is_tree", .glo "is_picture", .glo "look_picture", .glo "quarter", .glo "four", .glo "rows_in", .glo "shown_rows", .glo "tree_of", .glo "of_rows", .glo "look_worth", .glo "worths_in", .glo "box_of", .glo "runs_in", .glo "like_rows", .glo "rolled", .glo "framed", .glo "_law_cell", .glo "_law_pick", .glo "_law_class"]
def fa1 : List He.Fa := [.glo "_law_told", .glo "law", .free "isinstance", .free "int", .free "bool", .int "GREATEST" 9, .free "tuple", .free "len", .free "all", .glo "SIDES", .glo "NoPicture", .exc "NoPicture", .free "range", .free "zip", .free "list", .free "sorted", .free "set", .free "enumerate", .free "min", .free "max"]
def fa2 : List He.Fa := [.glo "NoSpot", .exc "NoSpot", .glo "BadBox", .glo "Unlike", .glo "NoRule", .glo "NoBlocks", .glo "NoChange", .glo "NoNumber", .glo "NothingDone", .glo "NoText", .glo "NoName", .free "ValueError", .glo "FourError", .exm "NoPicture" "FourError" true, .exm "NoSpot" "FourError" true, .exm "BadBox" "FourError" true, .exm "Unlike" "FourError" true, .exm "NoRule" "FourError" true, .exm "NoBlocks" "FourError" true, .exm "NoChange" "FourError" true]
def fa3 : List He.Fa := [.exm "NoNumber" "FourError" true, .exm "NothingDone" "FourError" true, .exm "NoText" "FourError" true, .exm "NoName" "FourError" true]
def fa : List He.Fa := fa0 ++ (fa1 ++ (fa2 ++ (fa3)))
def as : List (PySem.W.Frag → Bool) := [tupC "SIDES" k_SIDES, askE cs]
def tf : List He.Defn := [("law", none)]
abbrev TT (K : PySem.W.Frag) (mg : Str → Option Value) : Prop := Facts fa fn as K mg
section
variable {P : Program} {w : World} {K : PySem.W.Frag} {mg : Str → Option Value} {base : Heap}
theorem gm_law (T : TT K mg) : mg "law" = some (.ref (He.ga K "law")) := T.glo 21
theorem fm_isinstance (T : TT K mg) : mg "isinstance" = none := T.free 22
theorem fm_int (T : TT K mg) : mg "int" = none := T.free 23
theorem fm_bool (T : TT K mg) : mg "bool" = none := T.free 24
theorem gl_GREATEST (T : TT K mg) : Glb ⟨K, mg, P, w⟩ "GREATEST" (.int 9) := T.int 25
theorem gm_is_worth (T : TT K mg) : mg "is_worth" = some (.ref (He.ga K "is_worth")) := T.glo 0
theorem fm_tuple (T : TT K mg) : mg "tuple" = none := T.free 26
theorem fm_len (T : TT K mg) : mg "len" = none := T.free 27
theorem fm_all (T : TT K mg) : mg "all" = none := T.free 28
theorem gm_is_tree (T : TT K mg) : mg "is_tree" = some (.ref (He.ga K "is_tree")) := T.glo 1
theorem gm_SIDES (T : TT K mg) : mg "SIDES" = some (.ref (He.ga K "SIDES")) := T.glo 29
theorem glt_SIDES (T : TT K mg) : GlbT ⟨K, mg, P, w⟩ "SIDES" k_SIDES := tupC_ok (gm_SIDES T) (T.ask 0)
theorem gl_SIDES (T : TT K mg) : Glb ⟨K, mg, P, w⟩ "SIDES" (.tup k_SIDES) := (glt_SIDES T).glb
theorem gm_is_picture (T : TT K mg) : mg "is_picture" = some (.ref (He.ga K "is_picture")) := T.glo 2
theorem ex_NoPicture (T : TT K mg) : ExcF K mg "NoPicture" (He.ga K "NoPicture") := T.exc 30 31
theorem gm_look_picture (T : TT K mg) : mg "look_picture" = some (.ref (He.ga K "look_picture")) := T.glo 3
theorem gm_quarter (T : TT K mg) : mg "quarter" = some (.ref (He.ga K "quarter")) := T.glo 4
theorem gm_four (T : TT K mg) : mg "four" = some (.ref (He.ga K "four")) := T.glo 5
theorem fm_range (T : TT K mg) : mg "range" = none := T.free 32
theorem fm_zip (T : TT K mg) : mg "zip" = none := T.free 33
theorem gm_rows_in (T : TT K mg) : mg "rows_in" = some (.ref (He.ga K "rows_in")) := T.glo 6
theorem gm_shown_rows (T : TT K mg) : mg "shown_rows" = some (.ref (He.ga K "shown_rows")) := T.glo 7
theorem gm_tree_of (T : TT K mg) : mg "tree_of" = some (.ref (He.ga K "tree_of")) := T.glo 8
theorem gm_of_rows (T : TT K mg) : mg "of_rows" = some (.ref (He.ga K "of_rows")) := T.glo 9
theorem gm_look_worth (T : TT K mg) : mg "look_worth" = some (.ref (He.ga K "look_worth")) := T.glo 10
theorem fm_list (T : TT K mg) : mg "list" = none := T.free 34
theorem fm_sorted (T : TT K mg) : mg "sorted" = none := T.free 35
theorem fm_set (T : TT K mg) : mg "set" = none := T.free 36
theorem gm_worths_in (T : TT K mg) : mg "worths_in" = some (.ref (He.ga K "worths_in")) := T.glo 11
theorem fm_enumerate (T : TT K mg) : mg "enumerate" = none := T.free 37
theorem fm_min (T : TT K mg) : mg "min" = none := T.free 38
theorem fm_max (T : TT K mg) : mg "max" = none := T.free 39
theorem gm_box_of (T : TT K mg) : mg "box_of" = some (.ref (He.ga K "box_of")) := T.glo 12
theorem ex_NoSpot (T : TT K mg) : ExcF K mg "NoSpot" (He.ga K "NoSpot") := T.exc 40 41
theorem gm_runs_in (T : TT K mg) : mg "runs_in" = some (.ref (He.ga K "runs_in")) := T.glo 13
theorem gm_like_rows (T : TT K mg) : mg "like_rows" = some (.ref (He.ga K "like_rows")) := T.glo 14
theorem gm_rolled (T : TT K mg) : mg "rolled" = some (.ref (He.ga K "rolled")) := T.glo 15
theorem gm_framed (T : TT K mg) : mg "framed" = some (.ref (He.ga K "framed")) := T.glo 16
theorem gm__law_cell (T : TT K mg) : mg "_law_cell" = some (.ref (He.ga K "_law_cell")) := T.glo 17
theorem gm__law_pick (T : TT K mg) : mg "_law_pick" = some (.ref (He.ga K "_law_pick")) := T.glo 18
theorem gm_NoPicture (T : TT K mg) : mg "NoPicture" = some (.ref (He.ga K "NoPicture")) := T.glo 30
theorem gm_NoSpot (T : TT K mg) : mg "NoSpot" = some (.ref (He.ga K "NoSpot")) := T.glo 40
theorem gm_BadBox (T : TT K mg) : mg "BadBox" = some (.ref (He.ga K "BadBox")) := T.glo 42
theorem gm_Unlike (T : TT K mg) : mg "Unlike" = some (.ref (He.ga K "Unlike")) := T.glo 43
theorem gm_NoRule (T : TT K mg) : mg "NoRule" = some (.ref (He.ga K "NoRule")) := T.glo 44
theorem gm_NoBlocks (T : TT K mg) : mg "NoBlocks" = some (.ref (He.ga K "NoBlocks")) := T.glo 45
theorem gm_NoChange (T : TT K mg) : mg "NoChange" = some (.ref (He.ga K "NoChange")) := T.glo 46
theorem gm_NoNumber (T : TT K mg) : mg "NoNumber" = some (.ref (He.ga K "NoNumber")) := T.glo 47
theorem gm_NothingDone (T : TT K mg) : mg "NothingDone" = some (.ref (He.ga K "NothingDone")) := T.glo 48
theorem gm_NoText (T : TT K mg) : mg "NoText" = some (.ref (He.ga K "NoText")) := T.glo 49
theorem gm_NoName (T : TT K mg) : mg "NoName" = some (.ref (He.ga K "NoName")) := T.glo 50
theorem cs_ok (T : TT K mg) : (askE cs K = true) ∧ ∀ c ∈ cs, mg c = some (.ref (He.ga K c)) := ⟨T.ask 1, List.forall_mem_cons.mpr ⟨gm_NoPicture T, List.forall_mem_cons.mpr ⟨gm_NoSpot T, List.forall_mem_cons.mpr ⟨gm_BadBox T, List.forall_mem_cons.mpr ⟨gm_Unlike T, List.forall_mem_cons.mpr ⟨gm_NoRule T, List.forall_mem_cons.mpr ⟨gm_NoBlocks T, List.forall_mem_cons.mpr ⟨gm_NoChange T, List.forall_mem_cons.mpr ⟨gm_NoNumber T, List.forall_mem_cons.mpr ⟨gm_NothingDone T, List.forall_mem_cons.mpr ⟨gm_NoText T, List.forall_mem_cons.mpr ⟨gm_NoName T, fun _ h => nomatch h⟩⟩⟩⟩⟩⟩⟩⟩⟩⟩⟩⟩
theorem fm_ValueError (T : TT K mg) : mg "ValueError" = none := T.free 51
theorem gm__law_class (T : TT K mg) : mg "_law_class" = some (.ref (He.ga K "_law_class")) := T.glo 19
theorem gm_FourError (T : TT K mg) : mg "FourError" = some (.ref (He.ga K "FourError")) := T.glo 52
theorem cat_ok (T : TT K mg) : ∀ c ∈ cs, ∀ C, mg c = some (.ref C) → PySem.W.exmOne K (.ref C) (.ref (He.ga K "FourError")) = some true := List.forall_mem_cons.mpr ⟨cat1 (gm_NoPicture T) (T.exm 53), List.forall_mem_cons.mpr ⟨cat1 (gm_NoSpot T) (T.exm 54), List.forall_mem_cons.mpr ⟨cat1 (gm_BadBox T) (T.exm 55), List.forall_mem_cons.mpr ⟨cat1 (gm_Unlike T) (T.exm 56), List.forall_mem_cons.mpr ⟨cat1 (gm_NoRule T) (T.exm 57), List.forall_mem_cons.mpr ⟨cat1 (gm_NoBlocks T) (T.exm 58), List.forall_mem_cons.mpr ⟨cat1 (gm_NoChange T) (T.exm 59), List.forall_mem_cons.mpr ⟨cat1 (gm_NoNumber T) (T.exm 60), List.forall_mem_cons.mpr ⟨cat1 (gm_NothingDone T) (T.exm 61), List.forall_mem_cons.mpr ⟨cat1 (gm_NoText T) (T.exm 62), List.forall_mem_cons.mpr ⟨cat1 (gm_NoName T) (T.exm 63), fun _ h => nomatch h⟩⟩⟩⟩⟩⟩⟩⟩⟩⟩⟩
theorem gm__law_told (T : TT K mg) : mg "_law_told" = some (.ref (He.ga K "_law_told")) := T.glo 20
abbrev N_is_worth : List Str := ["thing"]
theorem sc_is_worth : FnScope N_is_worth ["thing"] (defScope (top 16)) := ⟨rfl, rfl, rfl, by decide +kernel, rfl, by decide +kernel, by decide +kernel⟩
theorem ok_is_worth (T : TT K mg) : Calls P w K mg base "is_worth" 1 1 m_is_worth := by
  obtain ⟨fd, F⟩ := T.def_ 0
  exact calls_of (k := 0) (g := b_is_worth) F sc_is_worth (gm_is_worth T) (F.bindsN (ps := ["thing"]) fun _ _ _ _ _ _ us hl => match us, hl with | [_], _ => rfl) fun cdv A outer s H E c =>
 (sds_one (sd_ret (ed_and (ed_isi (by rfl) (fm_isinstance T) (ed_var 0 (pv 0)) (pe_bltn (v := .ty "int") (by rfl) (fm_int T) bt_int rfl)) (ed_and (ed_not (ed_isi (by rfl) (fm_isinstance T) (ed_var 0 (pv 0)) (pe_bltn (v := .ty "bool") (by rfl) (fm_bool T) bt_bool rfl))) (ed_one (ed_chain op_le op_le sem_cmp sem_cmp ed_int (ed_var 0 (pv 0)) (ed_glb (by rfl) (gl_GREATEST T)) rfl))))))
abbrev N_is_tree : List Str := ["thing", "size", "part"]
theorem sc_is_tree : FnScope N_is_tree ["thing", "size"] (defScope (top 17)) := ⟨rfl, rfl, rfl, by decide +kernel, rfl, by decide +kernel, by decide +kernel⟩
theorem ok_is_tree (T : TT K mg) (r : Nat) : Calls P w K mg base "is_tree" 2 (1 + r) (m_is_tree r) := by
  induction r with
  | zero =>
    obtain ⟨fd, F⟩ := T.def_ 1
    exact calls_none F (gm_is_tree T) (F.bindsN (ps := ["thing", "size"]) fun _ _ _ _ _ _ us hl => match us, hl with | [_, _], _ => rfl)
  | succ r ih =>
    obtain ⟨fd, F⟩ := T.def_ 1
    exact calls_of (k := 1 + r) (g := b_is_tree (m_is_tree r)) F sc_is_tree (gm_is_tree T) (F.bindsN (ps := ["thing", "size"]) fun _ _ _ _ _ _ us hl => match us, hl with | [_, _], _ => rfl) fun cdv A outer s H E c =>
 (sds_cons (sd_if (td_val (ed_call c.tk c.room (by omega) (ok_is_worth T) (by rfl) (ad_cons (ed_var 0 (pv 0)) ad_nil)))
  (sds_one (sd_ret ed_bl))
  sds_nil)
 (sds_cons (sd_if (td_bool (wd_or (td_cmp (op_eqP (rm_of c.room)) sem_eq (ed_var 1 (pv 1)) ed_int (nomark _)) (wd_or (td_not (td_val (ed_isi (by rfl) (fm_isinstance T) (ed_var 0 (pv 0)) (pe_bltn (v := .ty "tuple") (by rfl) (fm_tuple T) bt_tuple rfl)))) (wd_or1 (td_cmp (op_neP (rm_of c.room)) sem_ne (eb_len (fm_len T) (by rfl) (ad_cons (ed_var 0 (pv 0)) ad_nil)) ed_int (nomark _))))))
  (sds_one (sd_ret ed_bl))
  sds_nil)
 (sds_one (sd_ret (eb_all (fm_all T) rfl (by rfl) (ad_cons (ed_lc (own := [("part", 2)]) (.nm 2) rfl sc_is_tree.nd (id_seq (ed_var 0 (pv 0))) (blkOk_by (N := N_is_tree) (sc := defScope (top 17)) (by decide +kernel)) (by decide) (fun _ _ _ _ _ => (pg_name (i := 2) sc_is_tree.nd rfl (by first | exact Or.inl rfl | exact Or.inr rfl))) (fun _ _ _ _ _ => id0_nil) (fun _ _ _ _ _ => (ed_call takesW0 c.room (by omega) ih (by rfl) (ad_cons (ed_var 2 (pv 2)) (ad_cons (ed_op op_sub sem_sub (ed_var 1 (pv 1)) ed_int) ad_nil))))) ad_nil))))))
abbrev N_is_picture : List Str := ["thing", "size"]
theorem sc_is_picture : FnScope N_is_picture ["thing"] (defScope (top 18)) := ⟨rfl, rfl, rfl, by decide +kernel, rfl, by decide +kernel, by decide +kernel⟩
theorem ok_is_picture (T : TT K mg) : Calls P w K mg base "is_picture" 1 10 m_is_picture := by
  obtain ⟨fd, F⟩ := T.def_ 2
  exact calls_of (k := 9) (g := b_is_picture) F sc_is_picture (gm_is_picture T) (F.bindsN (ps := ["thing"]) fun _ _ _ _ _ _ us hl => match us, hl with | [_], _ => rfl) fun cdv A outer s H E c =>
 (sds_cons (sd_if (td_bool (wd_or (td_not (td_val (ed_isi (by rfl) (fm_isinstance T) (ed_var 0 (pv 0)) (pe_bltn (v := .ty "tuple") (by rfl) (fm_tuple T) bt_tuple rfl)))) (wd_or1 (td_cmp (op_neP (rm_of c.room)) sem_ne (eb_len (fm_len T) (by rfl) (ad_cons (ed_var 0 (pv 0)) ad_nil)) ed_int (nomark _)))))
  (sds_one (sd_ret ed_bl))
  sds_nil)
 (sds_cons (sd_set (i := 1) sc_is_picture.nd rfl (.inl rfl) (ed_ix (ed_var 0 (pv 0)) ed_int (fun _ _ => rfl)))
 (sds_cons (sd_if (td_bool (wd_or (td_not (td_val (ed_isi (by rfl) (fm_isinstance T) (ed_var 1 (pv 1)) (pe_bltn (v := .ty "int") (by rfl) (fm_int T) bt_int rfl)))) (wd_or (td_val (ed_isi (by rfl) (fm_isinstance T) (ed_var 1 (pv 1)) (pe_bltn (v := .ty "bool") (by rfl) (fm_bool T) bt_bool rfl))) (wd_or1 (td_not (td_chain op_le op_lt sem_cmp sem_cmp ed_int (ed_var 1 (pv 1)) (eb_len (fm_len T) (by rfl) (ad_cons (ed_glb (by rfl) (gl_SIDES T)) ad_nil)) rfl))))))
  (sds_one (sd_ret ed_bl))
  sds_nil)
 (sds_one (sd_ret (ed_call c.tk c.room (by omega) (ok_is_tree T 8) (by rfl) (ad_cons (ed_ix (ed_var 0 (pv 0)) ed_int (fun _ _ => rfl)) (ad_cons (ed_var 1 (pv 1)) ad_nil))))))))
abbrev N_look_picture : List Str := ["picture"]
theorem sc_look_picture : FnScope N_look_picture ["picture"] (defScope (top 19)) := ⟨rfl, rfl, rfl, by decide +kernel, rfl, by decide +kernel, by decide +kernel⟩
theorem ok_look_picture (T : TT K mg) : Calls P w K mg base "look_picture" 1 11 m_look_picture := by
  obtain ⟨fd, F⟩ := T.def_ 3
  exact calls_of (k := 10) (g := b_look_picture) F sc_look_picture (gm_look_picture T) (F.bindsN (ps := ["picture"]) fun _ _ _ _ _ _ us hl => match us, hl with | [_], _ => rfl) fun cdv A outer s H E c =>
 (sds_one (sd_if (td_not (td_val (ed_call c.tk c.room (by omega) (ok_is_picture T) (by rfl) (ad_cons (ed_var 0 (pv 0)) ad_nil))))
  (sds_one (sd_raise rfl c.tk (ex_NoPicture T) (by rfl)))
  sds_nil))
abbrev N_quarter : List Str := ["tree", "number"]
theorem sc_quarter : FnScope N_quarter ["tree", "number"] (defScope (top 20)) := ⟨rfl, rfl, rfl, by decide +kernel, rfl, by decide +kernel, by decide +kernel⟩
theorem ok_quarter (T : TT K mg) : Calls P w K mg base "quarter" 2 1 m_quarter := by
  obtain ⟨fd, F⟩ := T.def_ 4
  exact calls_of (k := 0) (g := b_quarter) F sc_quarter (gm_quarter T) (F.bindsN (ps := ["tree", "number"]) fun _ _ _ _ _ _ us hl => match us, hl with | [_, _], _ => rfl) fun cdv A outer s H E c =>
 (sds_one (sd_ret (ed_if (td_val (ed_isi (by rfl) (fm_isinstance T) (ed_var 0 (pv 0)) (pe_bltn (v := .ty "tuple") (by rfl) (fm_tuple T) bt_tuple rfl))) (ed_ix (ed_var 0 (pv 0)) (ed_var 1 (pv 1)) (fun _ _ => rfl)) (ed_var 0 (pv 0)))))
abbrev N_four : List Str := ["parts", "part"]
theorem sc_four : FnScope N_four ["parts"] (defScope (top 21)) := ⟨rfl, rfl, rfl, by decide +kernel, rfl, by decide +kernel, by decide +kernel⟩
theorem ok_four (T : TT K mg) : Calls P w K mg base "four" 1 1 m_four := by
  obtain ⟨fd, F⟩ := T.def_ 5
  exact calls_of (k := 0) (g := b_four) F sc_four (gm_four T) (F.bindsN (ps := ["parts"]) fun _ _ _ _ _ _ us hl => match us, hl with | [_], _ => rfl) fun cdv A outer s H E c =>
 (sds_cons (sd_if (td_bool (wd_and (td_not (td_val (ed_isi (by rfl) (fm_isinstance T) (ed_ix (ed_var 0 (pv 0)) ed_int (fun _ _ => rfl)) (pe_bltn (v := .ty "tuple") (by rfl) (fm_tuple T) bt_tuple rfl)))) (wd_and1 (td_val (eb_all (fm_all T) rfl (by rfl) (ad_cons (ed_lc (own := [("part", 1)]) (.nm 1) rfl sc_four.nd (id_seq (ed_var 0 (pv 0))) (blkOk_by (N := N_four) (sc := defScope (top 21)) (by decide +kernel)) (by decide) (fun _ _ _ _ _ => (pg_name (i := 1) sc_four.nd rfl (by first | exact Or.inl rfl | exact Or.inr rfl))) (fun _ _ _ _ _ => id0_nil) (fun _ _ _ _ _ => (ed_cmp (op_eqP (rm_of c.room)) sem_eq (ed_var 1 (pv 1)) (ed_ix (ed_var 0 (pv 0)) ed_int (fun _ _ => rfl)) (nomark _)))) ad_nil))))))
  (sds_one (sd_ret (ed_ix (ed_var 0 (pv 0)) ed_int (fun _ _ => rfl))))
  sds_nil)
 (sds_one (sd_ret (eb_tuple (fm_tuple T) (by rfl) (ad_cons (ed_var 0 (pv 0)) ad_nil)))))
abbrev N_rows_in : List Str := ["size", "tree", "some", "upper", "number", "left", "right"]
theorem sc_rows_in : FnScope N_rows_in ["size", "tree"] (defScope (top 22)) := ⟨rfl, rfl, rfl, by decide +kernel, rfl, by decide +kernel, by decide +kernel⟩
theorem ok_rows_in (T : TT K mg) (r : Nat) : Calls P w K mg base "rows_in" 2 (1 + r) (m_rows_in r) := by
  induction r with
  | zero =>
    obtain ⟨fd, F⟩ := T.def_ 6
    exact calls_none F (gm_rows_in T) (F.bindsN (ps := ["size", "tree"]) fun _ _ _ _ _ _ us hl => match us, hl with | [_, _], _ => rfl)
  | succ r ih =>
    obtain ⟨fd, F⟩ := T.def_ 6
    exact calls_of (k := 1 + r) (g := b_rows_in (m_rows_in r)) F sc_rows_in (gm_rows_in T) (F.bindsN (ps := ["size", "tree"]) fun _ _ _ _ _ _ us hl => match us, hl with | [_, _], _ => rfl) fun cdv A outer s H E c =>
 (sds_cons (sd_if (td_cmp (op_eqP (rm_of c.room)) sem_eq (ed_var 0 (pv 0)) ed_int (nomark _))
  (sds_one (sd_ret (ed_lst (ad_cons (ed_lst (ad_cons (ed_var 1 (pv 1)) ad_nil)) ad_nil))))
  sds_nil)
 (sds_cons (sd_lc (i := 2) (own := [("number", 4)]) (.nm 4) rfl sc_rows_in.nd rfl rfl (by rfl) (id_range1 (by rfl) (fm_range T) ed_int) (blkOk_by (N := N_rows_in) (sc := defScope (top 22)) (by decide +kernel)) (by decide) (fun _ _ _ _ _ => (pg_name (i := 4) sc_rows_in.nd rfl (by first | exact Or.inl rfl | exact Or.inr rfl))) (fun _ _ _ _ _ => id0_nil) (fun _ _ _ _ _ => (ed_call takesW0 c.room (by omega) ih (by rfl) (ad_cons (ed_op op_sub sem_sub (ed_var 0 (pv 0)) ed_int) (ad_cons (ed_call takesW0 c.room (by omega) (ok_quarter T) (by rfl) (ad_cons (ed_var 1 (pv 1)) (ad_cons (ed_var 4 (pv 4)) ad_nil))) ad_nil)))))
 (sds_cons (sd_lc (i := 3) (own := [("left", 5), ("right", 6)]) (.tp [.nm 5, .nm 6]) rfl sc_rows_in.nd rfl rfl (by rfl) (id_zip (by rfl) (fm_zip T) (ed_ix (ed_var 2 (pv 2)) ed_int (fun _ _ => rfl)) (ed_ix (ed_var 2 (pv 2)) ed_int (fun _ _ => rfl))) (blkOk_by (N := N_rows_in) (sc := defScope (top 22)) (by decide +kernel)) (by decide) (fun _ _ _ _ _ => (pg_tup rfl (pgs_cons (pg_name (i := 5) sc_rows_in.nd rfl (by first | exact Or.inl rfl | exact Or.inr rfl)) (pgs_cons (pg_name (i := 6) sc_rows_in.nd rfl (by first | exact Or.inl rfl | exact Or.inr rfl)) pgs_nil)))) (fun _ _ _ _ _ => id0_nil) (fun _ _ _ _ _ => (ed_op op_addD sem_add (ed_var 5 (pv 5)) (ed_var 6 (pv 6)))))
 (sds_one (sd_ret (ed_op op_addD sem_add (ed_var 3 (pv 3)) (ed_lc (own := [("left", 5), ("right", 6)]) (.tp [.nm 5, .nm 6]) rfl sc_rows_in.nd (id_zip (by rfl) (fm_zip T) (ed_ix (ed_var 2 (pv 2)) ed_int (fun _ _ => rfl)) (ed_ix (ed_var 2 (pv 2)) ed_int (fun _ _ => rfl))) (blkOk_by (N := N_rows_in) (sc := defScope (top 22)) (by decide +kernel)) (by decide) (fun _ _ _ _ _ => (pg_tup rfl (pgs_cons (pg_name (i := 5) sc_rows_in.nd rfl (by first | exact Or.inl rfl | exact Or.inr rfl)) (pgs_cons (pg_name (i := 6) sc_rows_in.nd rfl (by first | exact Or.inl rfl | exact Or.inr rfl)) pgs_nil)))) (fun _ _ _ _ _ => id0_nil) (fun _ _ _ _ _ => (ed_op op_addD sem_add (ed_var 5 (pv 5)) (ed_var 6 (pv 6)))))))))))
abbrev N_shown_rows : List Str := ["picture", "row"]
theorem sc_shown_rows : FnScope N_shown_rows ["picture"] (defScope (top 23)) := ⟨rfl, rfl, rfl, by decide +kernel, rfl, by decide +kernel, by decide +kernel⟩
theorem ok_shown_rows (T : TT K mg) : Calls P w K mg base "shown_rows" 1 12 m_shown_rows := by
  obtain ⟨fd, F⟩ := T.def_ 7
  exact calls_of (k := 11) (g := b_shown_rows) F sc_shown_rows (gm_shown_rows T) (F.bindsN (ps := ["picture"]) fun _ _ _ _ _ _ us hl => match us, hl with | [_], _ => rfl) fun cdv A outer s H E c =>
 (sds_cons (sd_expr (ed_call c.tk c.room (by omega) (ok_look_picture T) (by rfl) (ad_cons (ed_var 0 (pv 0)) ad_nil)))
 (sds_one (sd_ret (eb_tuple (fm_tuple T) (by rfl) (ad_cons (ed_lc (own := [("row", 1)]) (.nm 1) rfl sc_shown_rows.nd (id_seq (ed_call c.tk c.room (by omega) (ok_rows_in T 8) (by rfl) (ad_cons (ed_ix (ed_var 0 (pv 0)) ed_int (fun _ _ => rfl)) (ad_cons (ed_ix (ed_var 0 (pv 0)) ed_int (fun _ _ => rfl)) ad_nil)))) (blkOk_by (N := N_shown_rows) (sc := defScope (top 23)) (by decide +kernel)) (by decide) (fun _ _ _ _ _ => (pg_name (i := 1) sc_shown_rows.nd rfl (by first | exact Or.inl rfl | exact Or.inr rfl))) (fun _ _ _ _ _ => id0_nil) (fun _ _ _ _ _ => (eb_tuple (fm_tuple T) (by rfl) (ad_cons (ed_var 1 (pv 1)) ad_nil)))) ad_nil)))))
abbrev N_tree_of : List Str := ["some", "left", "top", "size", "half", "spots", "spot"]
theorem sc_tree_of : FnScope N_tree_of ["some", "left", "top", "size"] (defScope (top 24)) := ⟨rfl, rfl, rfl, by decide +kernel, rfl, by decide +kernel, by decide +kernel⟩
theorem ok_tree_of (T : TT K mg) (r : Nat) : Calls P w K mg base "tree_of" 4 (1 + r) (m_tree_of r) := by
  induction r with
  | zero =>
    obtain ⟨fd, F⟩ := T.def_ 8
    exact calls_none F (gm_tree_of T) (F.bindsN (ps := ["some", "left", "top", "size"]) fun _ _ _ _ _ _ us hl => match us, hl with | [_, _, _, _], _ => rfl)
  | succ r ih =>
    obtain ⟨fd, F⟩ := T.def_ 8
    exact calls_of (k := 1 + r) (g := b_tree_of (m_tree_of r)) F sc_tree_of (gm_tree_of T) (F.bindsN (ps := ["some", "left", "top", "size"]) fun _ _ _ _ _ _ us hl => match us, hl with | [_, _, _, _], _ => rfl) fun cdv A outer s H E c =>
 (sds_cons (sd_if (td_cmp (op_eqP (rm_of c.room)) sem_eq (ed_var 3 (pv 3)) ed_int (nomark _))
  (sds_one (sd_ret (ed_ix (ed_ix (ed_var 0 (pv 0)) (ed_var 2 (pv 2)) (fun _ _ => rfl)) (ed_var 1 (pv 1)) (fun _ _ => rfl))))
  sds_nil)
 (sds_cons (sd_set (i := 4) sc_tree_of.nd rfl (.inl rfl) (ed_ix (ed_glb (by rfl) (gl_SIDES T)) (ed_op op_sub sem_sub (ed_var 3 (pv 3)) ed_int) (fun _ _ => rfl)))
 (sds_cons (sd_set (i := 5) sc_tree_of.nd rfl (.inl rfl) (ed_lst (ad_cons (ed_tup (ad_cons (ed_var 1 (pv 1)) (ad_cons (ed_var 2 (pv 2)) ad_nil))) (ad_cons (ed_tup (ad_cons (ed_op op_addD sem_add (ed_var 1 (pv 1)) (ed_var 4 (pv 4))) (ad_cons (ed_var 2 (pv 2)) ad_nil))) (ad_cons (ed_tup (ad_cons (ed_var 1 (pv 1)) (ad_cons (ed_op op_addD sem_add (ed_var 2 (pv 2)) (ed_var 4 (pv 4))) ad_nil))) (ad_cons (ed_tup (ad_cons (ed_op op_addD sem_add (ed_var 1 (pv 1)) (ed_var 4 (pv 4))) (ad_cons (ed_op op_addD sem_add (ed_var 2 (pv 2)) (ed_var 4 (pv 4))) ad_nil))) ad_nil))))))
 (sds_one (sd_ret (ed_call c.tk c.room (by omega) (ok_four T) (by rfl) (ad_cons (ed_lc (own := [("spot", 6)]) (.nm 6) rfl sc_tree_of.nd (id_seq (ed_var 5 (pv 5))) (blkOk_by (N := N_tree_of) (sc := defScope (top 24)) (by decide +kernel)) (by decide) (fun _ _ _ _ _ => (pg_name (i := 6) sc_tree_of.nd rfl (by first | exact Or.inl rfl | exact Or.inr rfl))) (fun _ _ _ _ _ => id0_nil) (fun _ _ _ _ _ => (ed_call takesW0 c.room (by omega) ih (by rfl) (ad_cons (ed_var 0 (pv 0)) (ad_cons (ed_ix (ed_var 6 (pv 6)) ed_int (fun _ _ => rfl)) (ad_cons (ed_ix (ed_var 6 (pv 6)) ed_int (fun _ _ => rfl)) (ad_cons (ed_op op_sub sem_sub (ed_var 3 (pv 3)) ed_int) ad_nil))))))) ad_nil)))))))
abbrev N_of_rows : List Str := ["some", "row", "size", "one"]
theorem sc_of_rows : FnScope N_of_rows ["some"] (defScope (top 25)) := ⟨rfl, rfl, rfl, by decide +kernel, rfl, by decide +kernel, by decide +kernel⟩
theorem ok_of_rows (T : TT K mg) : Calls P w K mg base "of_rows" 1 10 m_of_rows := by
  obtain ⟨fd, F⟩ := T.def_ 9
  exact calls_of (k := 9) (g := b_of_rows) F sc_of_rows (gm_of_rows T) (F.bindsN (ps := ["some"]) fun _ _ _ _ _ _ us hl => match us, hl with | [_], _ => rfl) fun cdv A outer s H E c =>
 (sds_cons (sd_if (td_bool (wd_or (td_not (td_val (ed_isi (by rfl) (fm_isinstance T) (ed_var 0 (pv 0)) (pe_bltn (v := .ty "tuple") (by rfl) (fm_tuple T) bt_tuple rfl)))) (wd_or1 (td_cmp (op_notInP (rm_of c.room)) sem_in (eb_len (fm_len T) (by rfl) (ad_cons (ed_var 0 (pv 0)) ad_nil)) (ed_glb (by rfl) (gl_SIDES T)) rfl))))
  (sds_one (sd_raise rfl c.tk (ex_NoPicture T) (by rfl)))
  sds_nil)
 (sds_cons (sd_for (t := (.nm 1)) [1] c.ow rfl (id_seq (ed_var 0 (pv 0))) (pg_name (i := 1) sc_of_rows.nd rfl (.inl rfl))
  (sds_one (sd_if (td_bool (wd_or (td_not (td_val (ed_isi (by rfl) (fm_isinstance T) (ed_var 1 (pv 1)) (pe_bltn (v := .ty "tuple") (by rfl) (fm_tuple T) bt_tuple rfl)))) (wd_or (td_cmp (op_neP (rm_of c.room)) sem_ne (eb_len (fm_len T) (by rfl) (ad_cons (ed_var 1 (pv 1)) ad_nil)) (eb_len (fm_len T) (by rfl) (ad_cons (ed_var 0 (pv 0)) ad_nil)) (nomark _)) (wd_or1 (td_not (td_val (eb_all (fm_all T) rfl (by rfl) (ad_cons (ed_lc (own := [("one", 3)]) (.nm 3) rfl sc_of_rows.nd (id_seq (ed_var 1 (pv 1))) (blkOk_by (N := N_of_rows) (sc := defScope (top 25)) (by decide +kernel)) (by decide) (fun _ _ _ _ _ => (pg_name (i := 3) sc_of_rows.nd rfl (by first | exact Or.inl rfl | exact Or.inr rfl))) (fun _ _ _ _ _ => id0_nil) (fun _ _ _ _ _ => (ed_call takesW0 c.room (by omega) (ok_is_worth T) (by rfl) (ad_cons (ed_var 3 (pv 3)) ad_nil)))) ad_nil))))))))
  (sds_one (sd_raise rfl c.tk (ex_NoPicture T) (by rfl)))
  sds_nil)))
 (sds_cons (sd_set (i := 2) sc_of_rows.nd rfl (.inl rfl) (ed_mtG PySem.F.slot_tuple_index PySem.F.type_tuple_index (mt_idxT (rm_of c.room)) (by rfl) (glt_SIDES T) (eb_len (fm_len T) (by rfl) (ad_cons (ed_var 0 (pv 0)) ad_nil))))
 (sds_one (sd_ret (ed_tup (ad_cons (ed_var 2 (pv 2)) (ad_cons (ed_call c.tk c.room (by omega) (ok_tree_of T 8) (by rfl) (ad_cons (ed_var 0 (pv 0)) (ad_cons ed_int (ad_cons ed_int (ad_cons (ed_var 2 (pv 2)) ad_nil))))) ad_nil))))))))
abbrev N_look_worth : List Str := ["worth"]
theorem sc_look_worth : FnScope N_look_worth ["worth"] (defScope (top 27)) := ⟨rfl, rfl, rfl, by decide +kernel, rfl, by decide +kernel, by decide +kernel⟩
theorem ok_look_worth (T : TT K mg) : Calls P w K mg base "look_worth" 1 2 m_look_worth := by
  obtain ⟨fd, F⟩ := T.def_ 10
  exact calls_of (k := 1) (g := b_look_worth) F sc_look_worth (gm_look_worth T) (F.bindsN (ps := ["worth"]) fun _ _ _ _ _ _ us hl => match us, hl with | [_], _ => rfl) fun cdv A outer s H E c =>
 (sds_one (sd_if (td_not (td_val (ed_call c.tk c.room (by omega) (ok_is_worth T) (by rfl) (ad_cons (ed_var 0 (pv 0)) ad_nil))))
  (sds_one (sd_raise rfl c.tk (ex_NoPicture T) (by rfl)))
  sds_nil))
abbrev N_worths_in : List Str := ["picture", "made", "row"]
theorem sc_worths_in : FnScope N_worths_in ["picture"] (defScope (top 29)) := ⟨rfl, rfl, rfl, by decide +kernel, rfl, by decide +kernel, by decide +kernel⟩
theorem ok_worths_in (T : TT K mg) : Calls P w K mg base "worths_in" 1 13 m_worths_in := by
  obtain ⟨fd, F⟩ := T.def_ 11
  exact calls_of (k := 12) (g := b_worths_in) F sc_worths_in (gm_worths_in T) (F.bindsN (ps := ["picture"]) fun _ _ _ _ _ _ us hl => match us, hl with | [_], _ => rfl) fun cdv A outer s H E c =>
 (sds_cons (sd_setO (i := 1) sc_worths_in.nd rfl (.inl rfl) (nd_lst ad_nil))
 (sds_cons (sd_for (t := (.nm 2)) [2] c.ow rfl (id_seq (ed_call c.tk c.room (by omega) (ok_shown_rows T) (by rfl) (ad_cons (ed_var 0 (pv 0)) ad_nil))) (pg_name (i := 2) sc_worths_in.nd rfl (.inl rfl))
  (sds_one (sd_ext (pv 1) (eb_list (fm_list T) (by rfl) (ad_cons (ed_var 2 (pv 2)) ad_nil)))))
 (sds_frz 1 (sds_one (sd_ret (ed_sortSet rfl (by rfl) (fm_sorted T) (by rfl) (fm_set T) (ed_var 1 (pv 1))))))))
abbrev N_box_of : List Str := ["picture", "worth", "spots", "y", "row", "left", "top", "x", "one"]
theorem sc_box_of : FnScope N_box_of ["picture", "worth"] (defScope (top 30)) := ⟨rfl, rfl, rfl, by decide +kernel, rfl, by decide +kernel, by decide +kernel⟩
theorem ok_box_of (T : TT K mg) : Calls P w K mg base "box_of" 2 13 m_box_of := by
  obtain ⟨fd, F⟩ := T.def_ 12
  exact calls_of (k := 12) (g := b_box_of) F sc_box_of (gm_box_of T) (F.bindsN (ps := ["picture", "worth"]) fun _ _ _ _ _ _ us hl => match us, hl with | [_, _], _ => rfl) fun cdv A outer s H E c =>
 (sds_cons (sd_setO (i := 2) sc_box_of.nd rfl (.inl rfl) (nd_lst ad_nil))
 (sds_cons (sd_for (t := (.tp [.nm 3, .nm 4])) [3, 4] c.ow rfl (id_enum (by rfl) (fm_enumerate T) (ed_call c.tk c.room (by omega) (ok_shown_rows T) (by rfl) (ad_cons (ed_var 0 (pv 0)) ad_nil))) (pg_tup rfl (pgs_cons (pg_name (i := 3) sc_box_of.nd rfl (.inr rfl)) (pgs_cons (pg_name (i := 4) sc_box_of.nd rfl (.inl rfl)) pgs_nil)))
  (sds_one (sd_ext (pv 2) (ed_lc (own := [("x", 7), ("one", 8)]) (.tp [.nm 7, .nm 8]) rfl sc_box_of.nd (id_enum (by rfl) (fm_enumerate T) (ed_var 4 (pv 4))) (blkOk_by (N := N_box_of) (sc := defScope (top 30)) (by decide +kernel)) (by decide) (fun _ _ _ _ _ => (pg_tup rfl (pgs_cons (pg_name (i := 7) sc_box_of.nd rfl (by first | exact Or.inl rfl | exact Or.inr rfl)) (pgs_cons (pg_name (i := 8) sc_box_of.nd rfl (by first | exact Or.inl rfl | exact Or.inr rfl)) pgs_nil)))) (fun _ _ _ _ _ => (id0_one (td_cmp (op_eqP (rm_of c.room)) sem_eq (ed_var 8 (pv 8)) (ed_var 1 (pv 1)) (nomark _)))) (fun _ _ _ _ _ => (ed_tup (ad_cons (ed_var 7 (pv 7)) (ad_cons (ed_var 3 (pv 3)) ad_nil))))))))
 (sds_frz 2 (sds_cons (sd_expr (ed_call c.tk c.room (by omega) (ok_look_worth T) (by rfl) (ad_cons (ed_var 1 (pv 1)) ad_nil)))
 (sds_cons (sd_if (td_cmp (op_eqP (rm_of c.room)) sem_eq (ed_var 2 (pv 2)) (ed_lst ad_nil) (nomark _))
  (sds_one (sd_ret ed_non))
  sds_nil)
 (sds_cons (sd_par rfl sc_box_of.nd rfl rfl (by decide) rfl rfl (ed_callB (cr_minD rfl) sem_min (by rfl) (fm_min T) bt_min (ad_cons (ed_lc (own := [("x", 7), ("y", 3)]) (.tp [.nm 7, .nm 3]) rfl sc_box_of.nd (id_seq (ed_var 2 (pv 2))) (blkOk_by (N := N_box_of) (sc := defScope (top 30)) (by decide +kernel)) (by decide) (fun _ _ _ _ _ => (pg_tup rfl (pgs_cons (pg_name (i := 7) sc_box_of.nd rfl (by first | exact Or.inl rfl | exact Or.inr rfl)) (pgs_cons (pg_name (i := 3) sc_box_of.nd rfl (by first | exact Or.inl rfl | exact Or.inr rfl)) pgs_nil)))) (fun _ _ _ _ _ => id0_nil) (fun _ _ _ _ _ => (ed_var 7 (pv 7)))) ad_nil)) (ed_callB (cr_minD rfl) sem_min (by rfl) (fm_min T) bt_min (ad_cons (ed_lc (own := [("x", 7), ("y", 3)]) (.tp [.nm 7, .nm 3]) rfl sc_box_of.nd (id_seq (ed_var 2 (pv 2))) (blkOk_by (N := N_box_of) (sc := defScope (top 30)) (by decide +kernel)) (by decide) (fun _ _ _ _ _ => (pg_tup rfl (pgs_cons (pg_name (i := 7) sc_box_of.nd rfl (by first | exact Or.inl rfl | exact Or.inr rfl)) (pgs_cons (pg_name (i := 3) sc_box_of.nd rfl (by first | exact Or.inl rfl | exact Or.inr rfl)) pgs_nil)))) (fun _ _ _ _ _ => id0_nil) (fun _ _ _ _ _ => (ed_var 3 (pv 3)))) ad_nil)) (by rfl))
 (sds_one (sd_ret (ed_tup (ad_cons (ed_var 5 (pv 5)) (ad_cons (ed_var 6 (pv 6)) (ad_cons (ed_op op_addD sem_add (ed_op op_sub sem_sub (ed_callB (cr_maxD rfl) sem_max (by rfl) (fm_max T) bt_max (ad_cons (ed_lc (own := [("x", 7), ("y", 3)]) (.tp [.nm 7, .nm 3]) rfl sc_box_of.nd (id_seq (ed_var 2 (pv 2))) (blkOk_by (N := N_box_of) (sc := defScope (top 30)) (by decide +kernel)) (by decide) (fun _ _ _ _ _ => (pg_tup rfl (pgs_cons (pg_name (i := 7) sc_box_of.nd rfl (by first | exact Or.inl rfl | exact Or.inr rfl)) (pgs_cons (pg_name (i := 3) sc_box_of.nd rfl (by first | exact Or.inl rfl | exact Or.inr rfl)) pgs_nil)))) (fun _ _ _ _ _ => id0_nil) (fun _ _ _ _ _ => (ed_var 7 (pv 7)))) ad_nil)) (ed_var 5 (pv 5))) ed_int) (ad_cons (ed_op op_addD sem_add (ed_op op_sub sem_sub (ed_callB (cr_maxD rfl) sem_max (by rfl) (fm_max T) bt_max (ad_cons (ed_lc (own := [("x", 7), ("y", 3)]) (.tp [.nm 7, .nm 3]) rfl sc_box_of.nd (id_seq (ed_var 2 (pv 2))) (blkOk_by (N := N_box_of) (sc := defScope (top 30)) (by decide +kernel)) (by decide) (fun _ _ _ _ _ => (pg_tup rfl (pgs_cons (pg_name (i := 7) sc_box_of.nd rfl (by first | exact Or.inl rfl | exact Or.inr rfl)) (pgs_cons (pg_name (i := 3) sc_box_of.nd rfl (by first | exact Or.inl rfl | exact Or.inr rfl)) pgs_nil)))) (fun _ _ _ _ _ => id0_nil) (fun _ _ _ _ _ => (ed_var 3 (pv 3)))) ad_nil)) (ed_var 6 (pv 6))) ed_int) ad_nil)))))))))))))
abbrev N_runs_in : List Str := ["picture", "y", "rows", "made", "worth"]
theorem sc_runs_in : FnScope N_runs_in ["picture", "y"] (defScope (top 31)) := ⟨rfl, rfl, rfl, by decide +kernel, rfl, by decide +kernel, by decide +kernel⟩
theorem ok_runs_in (T : TT K mg) : Calls P w K mg base "runs_in" 2 13 m_runs_in := by
  obtain ⟨fd, F⟩ := T.def_ 13
  exact calls_of (k := 12) (g := b_runs_in) F sc_runs_in (gm_runs_in T) (F.bindsN (ps := ["picture", "y"]) fun _ _ _ _ _ _ us hl => match us, hl with | [_, _], _ => rfl) fun cdv A outer s H E c =>
 (sds_cons (sd_set (i := 2) sc_runs_in.nd rfl (.inl rfl) (ed_call c.tk c.room (by omega) (ok_shown_rows T) (by rfl) (ad_cons (ed_var 0 (pv 0)) ad_nil)))
 (sds_cons (sd_if (td_bool (wd_or (td_not (td_val (ed_isi (by rfl) (fm_isinstance T) (ed_var 1 (pv 1)) (pe_bltn (v := .ty "int") (by rfl) (fm_int T) bt_int rfl)))) (wd_or (td_val (ed_isi (by rfl) (fm_isinstance T) (ed_var 1 (pv 1)) (pe_bltn (v := .ty "bool") (by rfl) (fm_bool T) bt_bool rfl))) (wd_or1 (td_not (td_chain op_le op_lt sem_cmp sem_cmp ed_int (ed_var 1 (pv 1)) (eb_len (fm_len T) (by rfl) (ad_cons (ed_var 2 (pv 2)) ad_nil)) rfl))))))
  (sds_one (sd_raise rfl c.tk (ex_NoSpot T) (by rfl)))
  sds_nil)
 (sds_cons (sd_setO (i := 3) sc_runs_in.nd rfl (.inl rfl) (nd_lst ad_nil))
 (sds_cons (sd_for (t := (.nm 4)) [4] c.ow rfl (id_seq (ed_ix (ed_var 2 (pv 2)) (ed_var 1 (pv 1)) (fun _ _ => rfl))) (pg_name (i := 4) sc_runs_in.nd rfl (.inl rfl))
  (sds_one (sd_if (td_bor 3 (td_bool (wd_and (td_cmp (op_neP (rm_of c.room)) sem_ne (ed_var 3 (pv 3)) (ed_lst ad_nil) (nomark _)) (wd_and1 (td_cmp (op_eqP (rm_of c.room)) sem_eq (ed_ix (ed_ix (ed_var 3 (pv 3)) (ed_un un_neg sem_neg ed_int) (fun _ _ => rfl)) ed_int (fun _ _ => rfl)) (ed_var 4 (pv 4)) (nomark _))))))
  (sds_one (sd_setIx (pv 3) (ed_un un_neg sem_neg ed_int) (ed_tup (ad_cons (ed_var 4 (pv 4)) (ad_cons (ed_op op_addD sem_add (ed_ix (ed_ixO (pv 3) (ed_un un_neg sem_neg ed_int) (fun _ _ => rfl)) ed_int (fun _ _ => rfl)) ed_int) ad_nil))) (pg_sub (pv 3) (ed_un un_neg sem_neg ed_int) set_list (fun _ => rfl))))
  (sds_one (sd_app (pv 3) (ed_tup (ad_cons (ed_var 4 (pv 4)) (ad_cons ed_int ad_nil))))))))
 (sds_frz 3 (sds_one (sd_ret (ed_var 3 (pv 3)))))))))
abbrev N_like_rows : List Str := ["picture", "rows", "made", "y", "other"]
theorem sc_like_rows : FnScope N_like_rows ["picture"] (defScope (top 32)) := ⟨rfl, rfl, rfl, by decide +kernel, rfl, by decide +kernel, by decide +kernel⟩
theorem ok_like_rows (T : TT K mg) : Calls P w K mg base "like_rows" 1 13 m_like_rows := by
  obtain ⟨fd, F⟩ := T.def_ 14
  exact calls_of (k := 12) (g := b_like_rows) F sc_like_rows (gm_like_rows T) (F.bindsN (ps := ["picture"]) fun _ _ _ _ _ _ us hl => match us, hl with | [_], _ => rfl) fun cdv A outer s H E c =>
 (sds_cons (sd_set (i := 1) sc_like_rows.nd rfl (.inr rfl) (ed_call c.tk c.room (by omega) (ok_shown_rows T) (by rfl) (ad_cons (ed_var 0 (pv 0)) ad_nil)))
 (sds_cons (sd_setO (i := 2) sc_like_rows.nd rfl (.inl rfl) (nd_lst ad_nil))
 (sds_cons (sd_for (t := (.nm 3)) [3] c.ow rfl (id_range1 (by rfl) (fm_range T) (eb_len (fm_len T) (by rfl) (ad_cons (ed_var 1 (pv 1)) ad_nil))) (pg_name (i := 3) sc_like_rows.nd rfl (.inr rfl))
  (sds_one (sd_ext (pv 2) (ed_lc (own := [("other", 4)]) (.nm 4) rfl sc_like_rows.nd (id_range2 (by rfl) (fm_range T) (ed_op op_addD sem_add (ed_var 3 (pv 3)) ed_int) (eb_len (fm_len T) (by rfl) (ad_cons (ed_var 1 (pv 1)) ad_nil))) (blkOk_by (N := N_like_rows) (sc := defScope (top 32)) (by decide +kernel)) (by decide) (fun _ _ _ _ _ => (pg_name (i := 4) sc_like_rows.nd rfl (by first | exact Or.inl rfl | exact Or.inr rfl))) (fun _ _ _ _ _ => (id0_one (td_cmp (op_eqP (rm_of c.room)) sem_eq (ed_ix (ed_var 1 (pv 1)) (ed_var 3 (pv 3)) (fun _ _ => rfl)) (ed_ix (ed_var 1 (pv 1)) (ed_var 4 (pv 4)) (fun _ _ => rfl)) (nomark _)))) (fun _ _ _ _ _ => (ed_tup (ad_cons (ed_var 3 (pv 3)) (ad_cons (ed_var 4 (pv 4)) ad_nil))))))))
 (sds_frz 2 (sds_one (sd_ret (ed_var 2 (pv 2))))))))
abbrev N_rolled : List Str := ["picture", "right", "down", "rows", "many", "made", "y", "row", "x"]
theorem sc_rolled : FnScope N_rolled ["picture", "right", "down"] (defScope (top 33)) := ⟨rfl, rfl, rfl, by decide +kernel, rfl, by decide +kernel, by decide +kernel⟩
theorem ok_rolled (T : TT K mg) : Calls P w K mg base "rolled" 3 13 m_rolled := by
  obtain ⟨fd, F⟩ := T.def_ 15
  exact calls_of (k := 12) (g := b_rolled) F sc_rolled (gm_rolled T) (F.bindsN (ps := ["picture", "right", "down"]) fun _ _ _ _ _ _ us hl => match us, hl with | [_, _, _], _ => rfl) fun cdv A outer s H E c =>
 (sds_cons (sd_set (i := 3) sc_rolled.nd rfl (.inl rfl) (ed_call c.tk c.room (by omega) (ok_shown_rows T) (by rfl) (ad_cons (ed_var 0 (pv 0)) ad_nil)))
 (sds_cons (sd_set (i := 4) sc_rolled.nd rfl (.inr rfl) (eb_len (fm_len T) (by rfl) (ad_cons (ed_var 3 (pv 3)) ad_nil)))
 (sds_cons (sd_setO (i := 5) sc_rolled.nd rfl (.inl rfl) (nd_lst ad_nil))
 (sds_cons (sd_for (t := (.nm 6)) [6, 7] c.ow rfl (id_range1 (by rfl) (fm_range T) (ed_var 4 (pv 4))) (pg_name (i := 6) sc_rolled.nd rfl (.inl rfl))
  (sds_cons (sd_set (i := 7) sc_rolled.nd rfl (.inr rfl) (ed_ix (ed_var 3 (pv 3)) (ed_op op_mod sem_mod (ed_op op_sub sem_sub (ed_var 6 (pv 6)) (ed_var 2 (pv 2))) (ed_var 4 (pv 4))) (fun _ _ => rfl)))
 (sds_one (sd_app (pv 5) (eb_tuple (fm_tuple T) (by rfl) (ad_cons (ed_lc (own := [("x", 8)]) (.nm 8) rfl sc_rolled.nd (id_range1 (by rfl) (fm_range T) (ed_var 4 (pv 4))) (blkOk_by (N := N_rolled) (sc := defScope (top 33)) (by decide +kernel)) (by decide) (fun _ _ _ _ _ => (pg_name (i := 8) sc_rolled.nd rfl (by first | exact Or.inl rfl | exact Or.inr rfl))) (fun _ _ _ _ _ => id0_nil) (fun _ _ _ _ _ => (ed_ix (ed_var 7 (pv 7)) (ed_op op_mod sem_mod (ed_op op_sub sem_sub (ed_var 8 (pv 8)) (ed_var 1 (pv 1))) (ed_var 4 (pv 4))) (fun _ _ => rfl)))) ad_nil))))))
 (sds_frz 5 (sds_one (sd_ret (ed_call c.tk c.room (by omega) (ok_of_rows T) (by rfl) (ad_cons (eb_tuple (fm_tuple T) (by rfl) (ad_cons (ed_var 5 (pv 5)) ad_nil)) ad_nil)))))))))
abbrev N_framed : List Str := ["picture", "worth", "rows", "many", "made", "y", "at_edge", "x"]
theorem sc_framed : FnScope N_framed ["picture", "worth"] (defScope (top 34)) := ⟨rfl, rfl, rfl, by decide +kernel, rfl, by decide +kernel, by decide +kernel⟩
theorem ok_framed (T : TT K mg) : Calls P w K mg base "framed" 2 13 m_framed := by
  obtain ⟨fd, F⟩ := T.def_ 16
  exact calls_of (k := 12) (g := b_framed) F sc_framed (gm_framed T) (F.bindsN (ps := ["picture", "worth"]) fun _ _ _ _ _ _ us hl => match us, hl with | [_, _], _ => rfl) fun cdv A outer s H E c =>
 (sds_cons (sd_expr (ed_call c.tk c.room (by omega) (ok_look_picture T) (by rfl) (ad_cons (ed_var 0 (pv 0)) ad_nil)))
 (sds_cons (sd_expr (ed_call c.tk c.room (by omega) (ok_look_worth T) (by rfl) (ad_cons (ed_var 1 (pv 1)) ad_nil)))
 (sds_cons (sd_set (i := 2) sc_framed.nd rfl (.inr rfl) (ed_call c.tk c.room (by omega) (ok_shown_rows T) (by rfl) (ad_cons (ed_var 0 (pv 0)) ad_nil)))
 (sds_cons (sd_set (i := 3) sc_framed.nd rfl (.inr rfl) (ed_ix (ed_glb (by rfl) (gl_SIDES T)) (ed_ix (ed_var 0 (pv 0)) ed_int (fun _ _ => rfl)) (fun _ _ => rfl)))
 (sds_cons (sd_setO (i := 4) sc_framed.nd rfl (.inl rfl) (nd_lst ad_nil))
 (sds_cons (sd_for (t := (.nm 5)) [5, 6] c.ow rfl (id_range1 (by rfl) (fm_range T) (ed_var 3 (pv 3))) (pg_name (i := 5) sc_framed.nd rfl (.inr rfl))
  (sds_cons (sd_set (i := 6) sc_framed.nd rfl (.inr rfl) (ed_cmp (op_inP (rm_of c.room)) sem_in (ed_var 5 (pv 5)) (ed_tup (ad_cons ed_int (ad_cons (ed_op op_sub sem_sub (ed_var 3 (pv 3)) ed_int) ad_nil))) rfl))
 (sds_one (sd_app (pv 4) (eb_tuple (fm_tuple T) (by rfl) (ad_cons (ed_lc (own := [("x", 7)]) (.nm 7) rfl sc_framed.nd (id_range1 (by rfl) (fm_range T) (ed_var 3 (pv 3))) (blkOk_by (N := N_framed) (sc := defScope (top 34)) (by decide +kernel)) (by decide) (fun _ _ _ _ _ => (pg_name (i := 7) sc_framed.nd rfl (by first | exact Or.inl rfl | exact Or.inr rfl))) (fun _ _ _ _ _ => id0_nil) (fun _ _ _ _ _ => (ed_if (td_bool (wd_or (td_val (ed_var 6 (pv 6))) (wd_or1 (td_cmp (op_inP (rm_of c.room)) sem_in (ed_var 7 (pv 7)) (ed_tup (ad_cons ed_int (ad_cons (ed_op op_sub sem_sub (ed_var 3 (pv 3)) ed_int) ad_nil))) rfl)))) (ed_var 1 (pv 1)) (ed_ix (ed_ix (ed_var 2 (pv 2)) (ed_var 5 (pv 5)) (fun _ _ => rfl)) (ed_var 7 (pv 7)) (fun _ _ => rfl))))) ad_nil))))))
 (sds_frz 4 (sds_one (sd_ret (ed_call c.tk c.room (by omega) (ok_of_rows T) (by rfl) (ad_cons (eb_tuple (fm_tuple T) (by rfl) (ad_cons (ed_var 4 (pv 4)) ad_nil)) ad_nil)))))))))))
abbrev N__law_cell : List Str := ["_law_script", "_law_k"]
theorem sc__law_cell : FnScope N__law_cell ["_law_script", "_law_k"] (defScope (top 36)) := ⟨rfl, rfl, rfl, by decide +kernel, rfl, by decide +kernel, by decide +kernel⟩
theorem ok__law_cell (T : TT K mg) : Calls P w K mg base "_law_cell" 2 1 m__law_cell := by
  obtain ⟨fd, F⟩ := T.def_ 17
  exact calls_of (k := 0) (g := b__law_cell) F sc__law_cell (gm__law_cell T) (F.bindsN (ps := ["_law_script", "_law_k"]) fun _ _ _ _ _ _ us hl => match us, hl with | [_, _], _ => rfl) fun cdv A outer s H E c =>
 (sds_cons (sd_if (td_cmp op_lt sem_cmp (ed_var 1 (pv 1)) (eb_len (fm_len T) (by rfl) (ad_cons (ed_var 0 (pv 0)) ad_nil)) (nomark _))
  (sds_one (sd_ret (ed_ix (ed_var 0 (pv 0)) (ed_var 1 (pv 1)) (fun _ _ => rfl))))
  sds_nil)
 (sds_cons (sd_if (td_cmp (op_eqP (rm_of c.room)) sem_eq (ed_var 0 (pv 0)) (ed_lst ad_nil) (nomark _))
  (sds_one (sd_ret ed_int))
  sds_nil)
 (sds_one (sd_ret (ed_op op_addD sem_add (ed_op op_mulD sem_mul (ed_ix (ed_var 0 (pv 0)) (ed_op op_mod sem_mod (ed_var 1 (pv 1)) (eb_len (fm_len T) (by rfl) (ad_cons (ed_var 0 (pv 0)) ad_nil))) (fun _ _ => rfl)) ed_int) (ed_var 1 (pv 1)))))))
abbrev N__law_pick : List Str := ["_law_script", "_law_k", "_law_many", "_law_drawn"]
theorem sc__law_pick : FnScope N__law_pick ["_law_script", "_law_k", "_law_many"] (defScope (top 37)) := ⟨rfl, rfl, rfl, by decide +kernel, rfl, by decide +kernel, by decide +kernel⟩
theorem ok__law_pick (T : TT K mg) : Calls P w K mg base "_law_pick" 3 2 m__law_pick := by
  obtain ⟨fd, F⟩ := T.def_ 18
  exact calls_of (k := 1) (g := b__law_pick) F sc__law_pick (gm__law_pick T) (F.bindsN (ps := ["_law_script", "_law_k", "_law_many"]) fun _ _ _ _ _ _ us hl => match us, hl with | [_, _, _], _ => rfl) fun cdv A outer s H E c =>
 (sds_cons (sd_set (i := 3) sc__law_pick.nd rfl (.inl rfl) (ed_op op_mod sem_mod (ed_op op_mulD sem_mul (ed_op op_addD sem_add (ed_call c.tk c.room (by omega) (ok__law_cell T) (by rfl) (ad_cons (ed_var 0 (pv 0)) (ad_cons (ed_var 1 (pv 1)) ad_nil))) (ed_op op_mulD sem_mul ed_int (ed_op op_addD sem_add (ed_var 1 (pv 1)) ed_int))) ed_int) ed_int))
 (sds_one (sd_ret (ed_op op_mod sem_mod (ed_op op_mod sem_mod (ed_op op_addD sem_add (ed_op op_mulD sem_mul (ed_var 3 (pv 3)) (ed_var 3 (pv 3))) (ed_op op_fdiv sem_fdiv (ed_var 3 (pv 3)) ed_int)) ed_int) (ed_var 2 (pv 2))))))
abbrev N__law_class : List Str := ["_law_kept", "_law_kinds", "_law_some"]
theorem sc__law_class : FnScope N__law_class ["_law_kept"] (defScope (top 38)) := ⟨rfl, rfl, rfl, by decide +kernel, rfl, by decide +kernel, by decide +kernel⟩
theorem ok__law_class (T : TT K mg) : Calls P w K mg base "_law_class" 1 1 m__law_class := by
  obtain ⟨fd, F⟩ := T.def_ 19
  exact calls_of (k := 0) (g := b__law_class) F sc__law_class (gm__law_class T) (F.bindsN (ps := ["_law_kept"]) fun _ _ _ _ _ _ us hl => match us, hl with | [_], _ => rfl) fun cdv A outer s H E c =>
 (sds_cons (sd_setO (i := 1) sc__law_class.nd rfl (.inl rfl) (nd_lst (ad_cons (eb_isE "BadBox" (fm_isinstance T) (cs_ok T).1 (cs_ok T).2 (by decide) (by rfl) (by rfl) (ed_var 0 (pv 0))) (ad_cons (eb_isE "NoBlocks" (fm_isinstance T) (cs_ok T).1 (cs_ok T).2 (by decide) (by rfl) (by rfl) (ed_var 0 (pv 0))) (ad_cons (eb_isE "NoChange" (fm_isinstance T) (cs_ok T).1 (cs_ok T).2 (by decide) (by rfl) (by rfl) (ed_var 0 (pv 0))) ad_nil)))))
 (sds_cons (sd_ext (pv 1) (ed_lst (ad_cons (eb_isE "NoName" (fm_isinstance T) (cs_ok T).1 (cs_ok T).2 (by decide) (by rfl) (by rfl) (ed_var 0 (pv 0))) ad_nil)))
 (sds_frz 1 (sds_cons (sd_set (i := 1) sc__law_class.nd rfl (.inl rfl) (ed_op op_addD sem_add (ed_var 1 (pv 1)) (ed_lst (ad_cons (eb_isE "NoNumber" (fm_isinstance T) (cs_ok T).1 (cs_ok T).2 (by decide) (by rfl) (by rfl) (ed_var 0 (pv 0))) (ad_cons (eb_isE "NoPicture" (fm_isinstance T) (cs_ok T).1 (cs_ok T).2 (by decide) (by rfl) (by rfl) (ed_var 0 (pv 0))) (ad_cons (eb_isE "NoRule" (fm_isinstance T) (cs_ok T).1 (cs_ok T).2 (by decide) (by rfl) (by rfl) (ed_var 0 (pv 0))) ad_nil))))))
 (sds_cons (sd_set (i := 1) sc__law_class.nd rfl (.inl rfl) (ed_op op_addD sem_add (ed_var 1 (pv 1)) (ed_lst (ad_cons (eb_isE "NoSpot" (fm_isinstance T) (cs_ok T).1 (cs_ok T).2 (by decide) (by rfl) (by rfl) (ed_var 0 (pv 0))) (ad_cons (eb_isE "NoText" (fm_isinstance T) (cs_ok T).1 (cs_ok T).2 (by decide) (by rfl) (by rfl) (ed_var 0 (pv 0))) (ad_cons (eb_isE "NothingDone" (fm_isinstance T) (cs_ok T).1 (cs_ok T).2 (by decide) (by rfl) (by rfl) (ed_var 0 (pv 0))) ad_nil))))))
 (sds_cons (sd_set (i := 1) sc__law_class.nd rfl (.inl rfl) (ed_op op_addD sem_add (ed_var 1 (pv 1)) (ed_lst (ad_cons (eb_isE "Unlike" (fm_isinstance T) (cs_ok T).1 (cs_ok T).2 (by decide) (by rfl) (by rfl) (ed_var 0 (pv 0))) ad_nil))))
 (sds_cons (sd_if (td_bool (wd_or (td_cmp (op_neP (rm_of c.room)) sem_ne (ed_mtL PySem.F.slot_list_count PySem.F.type_list_count (mt_cntL (rm_of c.room)) (ed_var 1 (pv 1)) ed_bl) ed_int (nomark _)) (wd_or1 (td_not (td_val (eb_isV (fm_isinstance T) (fm_ValueError T) (cs_ok T).1 (cs_ok T).2 (by rfl) (by rfl) (ed_var 0 (pv 0))))))))
  (sds_one (sd_ret ed_str))
  sds_nil)
 (sds_cons (sd_setO (i := 2) sc__law_class.nd rfl (.inl rfl) (nd_lst (ad_cons ed_str (ad_cons ed_str (ad_cons ed_str (ad_cons ed_str (ad_cons ed_str (ad_cons ed_str (ad_cons ed_str ad_nil)))))))))
 (sds_cons (sd_ext (pv 2) (ed_lst (ad_cons ed_str (ad_cons ed_str ad_nil))))
 (sds_frz 2 (sds_one (sd_ret (ed_ix (ed_op op_addD sem_add (ed_var 2 (pv 2)) (ed_lst (ad_cons ed_str (ad_cons ed_str ad_nil)))) (ed_mtL PySem.F.slot_list_index PySem.F.type_list_index (mt_idxL (rm_of c.room)) (ed_var 1 (pv 1)) ed_bl) (fun _ _ => rfl))))))))))))))
theorem okQ__law_class (T : TT K mg) : CallsQ P w K mg base "_law_class" 1 1 m__law_class := by
  obtain ⟨fd, F⟩ := T.def_ 19
  exact callsQ_of (N := N__law_class) (ps := ["_law_kept"]) (k := 0) (g := b__law_class) F sc__law_class (gm__law_class T) (F.bindsN (ps := ["_law_kept"]) fun _ _ _ _ _ _ us hl => match us, hl with | [_], _ => rfl) fun cdv A outer s H c =>
 (sds_cons (sd_setO (i := 1) sc__law_class.nd rfl (.inl rfl) (nd_lst (ad_cons (eb_isE "BadBox" (fm_isinstance T) (cs_ok T).1 (cs_ok T).2 (by decide) (by rfl) (by rfl) (ed_var 0 (pv 0))) (ad_cons (eb_isE "NoBlocks" (fm_isinstance T) (cs_ok T).1 (cs_ok T).2 (by decide) (by rfl) (by rfl) (ed_var 0 (pv 0))) (ad_cons (eb_isE "NoChange" (fm_isinstance T) (cs_ok T).1 (cs_ok T).2 (by decide) (by rfl) (by rfl) (ed_var 0 (pv 0))) ad_nil)))))
 (sds_cons (sd_ext (pv 1) (ed_lst (ad_cons (eb_isE "NoName" (fm_isinstance T) (cs_ok T).1 (cs_ok T).2 (by decide) (by rfl) (by rfl) (ed_var 0 (pv 0))) ad_nil)))
 (sds_frz 1 (sds_cons (sd_set (i := 1) sc__law_class.nd rfl (.inl rfl) (ed_op op_addD sem_add (ed_var 1 (pv 1)) (ed_lst (ad_cons (eb_isE "NoNumber" (fm_isinstance T) (cs_ok T).1 (cs_ok T).2 (by decide) (by rfl) (by rfl) (ed_var 0 (pv 0))) (ad_cons (eb_isE "NoPicture" (fm_isinstance T) (cs_ok T).1 (cs_ok T).2 (by decide) (by rfl) (by rfl) (ed_var 0 (pv 0))) (ad_cons (eb_isE "NoRule" (fm_isinstance T) (cs_ok T).1 (cs_ok T).2 (by decide) (by rfl) (by rfl) (ed_var 0 (pv 0))) ad_nil))))))
 (sds_cons (sd_set (i := 1) sc__law_class.nd rfl (.inl rfl) (ed_op op_addD sem_add (ed_var 1 (pv 1)) (ed_lst (ad_cons (eb_isE "NoSpot" (fm_isinstance T) (cs_ok T).1 (cs_ok T).2 (by decide) (by rfl) (by rfl) (ed_var 0 (pv 0))) (ad_cons (eb_isE "NoText" (fm_isinstance T) (cs_ok T).1 (cs_ok T).2 (by decide) (by rfl) (by rfl) (ed_var 0 (pv 0))) (ad_cons (eb_isE "NothingDone" (fm_isinstance T) (cs_ok T).1 (cs_ok T).2 (by decide) (by rfl) (by rfl) (ed_var 0 (pv 0))) ad_nil))))))
 (sds_cons (sd_set (i := 1) sc__law_class.nd rfl (.inl rfl) (ed_op op_addD sem_add (ed_var 1 (pv 1)) (ed_lst (ad_cons (eb_isE "Unlike" (fm_isinstance T) (cs_ok T).1 (cs_ok T).2 (by decide) (by rfl) (by rfl) (ed_var 0 (pv 0))) ad_nil))))
 (sds_cons (sd_if (td_bool (wd_or (td_cmp (op_neP (rmQ c.room)) sem_ne (ed_mtL PySem.F.slot_list_count PySem.F.type_list_count (mt_cntL (rmQ c.room)) (ed_var 1 (pv 1)) ed_bl) ed_int (nomark _)) (wd_or1 (td_not (td_val (eb_isV (fm_isinstance T) (fm_ValueError T) (cs_ok T).1 (cs_ok T).2 (by rfl) (by rfl) (ed_var 0 (pv 0))))))))
  (sds_one (sd_ret ed_str))
  sds_nil)
 (sds_cons (sd_setO (i := 2) sc__law_class.nd rfl (.inl rfl) (nd_lst (ad_cons ed_str (ad_cons ed_str (ad_cons ed_str (ad_cons ed_str (ad_cons ed_str (ad_cons ed_str (ad_cons ed_str ad_nil)))))))))
 (sds_cons (sd_ext (pv 2) (ed_lst (ad_cons ed_str (ad_cons ed_str ad_nil))))
 (sds_frz 2 (sds_one (sd_ret (ed_ix (ed_op op_addD sem_add (ed_var 2 (pv 2)) (ed_lst (ad_cons ed_str (ad_cons ed_str ad_nil)))) (ed_mtL PySem.F.slot_list_index PySem.F.type_list_index (mt_idxL (rmQ c.room)) (ed_var 1 (pv 1)) ed_bl) (fun _ _ => rfl))))))))))))))
abbrev N__law_told : List Str := ["_law_deed", "e"]
theorem sc__law_told : FnScope N__law_told ["_law_deed"] (defScope (top 39)) := ⟨rfl, rfl, rfl, by decide +kernel, rfl, by decide +kernel, by decide +kernel⟩
theorem ok__law_told (T : TT K mg) (k : Nat) (hk : 1 ≤ k) : Lent P w K mg base "_law_told" (k + 1) (TBack ⟨K, mg, P, w⟩ cs m__law_class) := by
  obtain ⟨fd, F⟩ := T.def_ 20
  exact lent_told (C0 := He.ga K "FourError") cs F sc__law_told (gm__law_told T) (F.bindsN (ps := ["_law_deed"]) fun _ _ _ _ _ _ us hl => match us, hl with | [_], _ => rfl) ((okQ__law_class T).mono hk) (gm_FourError T) (cat_ok T)
abbrev N_law : List Str := ["_law_script", "_law_odd", "_law_bad", "_law_picture", "_law_k", "_law_thing", "_law_worth", "_law_told_here"]
theorem sc_law : FnScope N_law ["_law_script"] (defScope (top 40)) := ⟨rfl, rfl, rfl, by decide +kernel, rfl, by decide +kernel, by decide +kernel⟩
theorem ends_law (T : TT K mg) : EndsT P w K mg tf (He.ga K "law") 16 "_law_script" m_law := by
  obtain ⟨fd, F⟩ := T.def_ 21
  refine ⟨fd, fun s v => FunD.bindsA (ps := ["_law_script"]) F (fun _ _ _ _ _ _ us hl => match us, hl with | [_], _ => rfl) s [v] rfl, fun base hB => ?_⟩
  exact fnOkL (N := N_law) (ps := ["_law_script"]) (k := 15) (g := b_law) F sc_law fun A outer s H E c =>
 (sms_cons (sm_up (sd_setO (i := 1) sc_law.nd rfl (.inl rfl) (nd_lst (ad_cons ed_non (ad_cons (ed_tup ad_nil) (ad_cons (ed_tup (ad_cons ed_int (ad_cons ed_int ad_nil))) (ad_cons (ed_tup (ad_cons ed_int (ad_cons (ed_tup (ad_cons ed_int (ad_cons ed_int (ad_cons ed_int (ad_cons ed_int ad_nil))))) ad_nil))) (ad_cons (ed_tup (ad_cons ed_int (ad_cons (ed_tup (ad_cons ed_int (ad_cons ed_int (ad_cons ed_int ad_nil)))) ad_nil))) (ad_cons (ed_lst (ad_cons ed_int (ad_cons ed_int ad_nil))) (ad_cons (ed_tup (ad_cons ed_bl (ad_cons ed_int ad_nil))) (ad_cons (ed_tup (ad_cons ed_int (ad_cons ed_int ad_nil))) (ad_cons (ed_tup (ad_cons ed_int (ad_cons ed_bl ad_nil))) ad_nil))))))))))))
 (sms_cons (sm_up (sd_ext (pv 1) (ed_lst (ad_cons (ed_tup (ad_cons ed_int (ad_cons (ed_tup (ad_cons (ed_tup (ad_cons ed_int (ad_cons ed_int (ad_cons ed_int (ad_cons (ed_un un_neg sem_neg ed_int) ad_nil))))) (ad_cons ed_int (ad_cons ed_int (ad_cons ed_int ad_nil))))) ad_nil))) ad_nil))))
 (sms_frz 1 (sms_cons (sm_up (sd_set (i := 2) sc_law.nd rfl (.inl rfl) (ed_lst (ad_cons ed_non (ad_cons (ed_un un_neg sem_neg ed_int) (ad_cons ed_int (ad_cons ed_bl (ad_cons ed_str (ad_cons (ed_tup (ad_cons ed_int ad_nil)) (ad_cons (ed_lst (ad_cons ed_int ad_nil)) (ad_cons ed_int ad_nil)))))))))))
 (sms_cons (sm_up (sd_set (i := 3) sc_law.nd rfl (.inr rfl) (ed_tup (ad_cons ed_int (ad_cons (ed_tup (ad_cons ed_int (ad_cons ed_int (ad_cons ed_int (ad_cons ed_int ad_nil))))) ad_nil)))))
 (sms_cons (sm_for [4, 5, 6, 7] (.nm 4) c.ow rfl (im_up (id_range1 (by rfl) (fm_range T) ed_int)) (pg_name (i := 4) sc_law.nd rfl (.inl rfl))
  (sms_cons (sm_up (sd_set (i := 5) sc_law.nd rfl (.inr rfl) (ed_ix (ed_var 1 (pv 1)) (ed_op op_mod sem_mod (ed_op op_addD sem_add (ed_call c.tk c.room (by omega) (ok__law_pick T) (by rfl) (ad_cons (ed_var 0 (pv 0)) (ad_cons ed_int (ad_cons ed_int ad_nil)))) (ed_op op_mulD sem_mul ed_int (ed_var 4 (pv 4)))) ed_int) (fun _ _ => rfl))))
 (sms_cons (sm_up (sd_set (i := 6) sc_law.nd rfl (.inr rfl) (ed_ix (ed_var 2 (pv 2)) (ed_op op_mod sem_mod (ed_op op_addD sem_add (ed_call c.tk c.room (by omega) (ok__law_pick T) (by rfl) (ad_cons (ed_var 0 (pv 0)) (ad_cons ed_int (ad_cons ed_int ad_nil)))) (ed_op op_mulD sem_mul ed_int (ed_var 4 (pv 4)))) ed_int) (fun _ _ => rfl))))
 (sms_cons (sm_newO (i := 7) sc_law.nd rfl (.inl rfl) (am_cons (em_told (P := (He.cT K ("law", none)).2) (c := (He.cT K ("law", none)).1) (j := 0) (k := 13) (ok__law_told T 13 (by omega)) c.room (by omega) (by rfl) (hB ("law", none) (by simp [tf])) rfl rfl (LamX.lamS_by (by rfl)) (fun A outer s H E f0 c0 c => (em_up (ed_call c.tk c.room (by omega) (ok_worths_in T) (by rfl) (ad_cons (ed_var 5 (pv 5)) ad_nil))))) am_nil))
 (sms_cons (sm_appO (pv 7) (em_told (P := (He.cT K ("law", none)).2) (c := (He.cT K ("law", none)).1) (j := 0) (k := 13) (ok__law_told T 13 (by omega)) c.room (by omega) (by rfl) (hB ("law", none) (by simp [tf])) rfl rfl (LamX.lamS_by (by rfl)) (fun A outer s H E f0 c0 c => (em_up (ed_call c.tk c.room (by omega) (ok_box_of T) (by rfl) (ad_cons (ed_var 5 (pv 5)) (ad_cons (ed_var 6 (pv 6)) ad_nil)))))))
 (sms_cons (sm_appO (pv 7) (em_told (P := (He.cT K ("law", none)).2) (c := (He.cT K ("law", none)).1) (j := 0) (k := 13) (ok__law_told T 13 (by omega)) c.room (by omega) (by rfl) (hB ("law", none) (by simp [tf])) rfl rfl (LamX.lamS_by (by rfl)) (fun A outer s H E f0 c0 c => (em_up (ed_call c.tk c.room (by omega) (ok_box_of T) (by rfl) (ad_cons (ed_var 3 (pv 3)) (ad_cons (ed_var 6 (pv 6)) ad_nil)))))))
 (sms_cons (sm_appO (pv 7) (em_told (P := (He.cT K ("law", none)).2) (c := (He.cT K ("law", none)).1) (j := 0) (k := 13) (ok__law_told T 13 (by omega)) c.room (by omega) (by rfl) (hB ("law", none) (by simp [tf])) rfl rfl (LamX.lamS_by (by rfl)) (fun A outer s H E f0 c0 c => (em_up (ed_call c.tk c.room (by omega) (ok_runs_in T) (by rfl) (ad_cons (ed_var 5 (pv 5)) (ad_cons (ed_var 6 (pv 6)) ad_nil)))))))
 (sms_cons (sm_appO (pv 7) (em_told (P := (He.cT K ("law", none)).2) (c := (He.cT K ("law", none)).1) (j := 0) (k := 13) (ok__law_told T 13 (by omega)) c.room (by omega) (by rfl) (hB ("law", none) (by simp [tf])) rfl rfl (LamX.lamS_by (by rfl)) (fun A outer s H E f0 c0 c => (em_up (ed_call c.tk c.room (by omega) (ok_like_rows T) (by rfl) (ad_cons (ed_var 5 (pv 5)) ad_nil))))))
 (sms_cons (sm_appO (pv 7) (em_told (P := (He.cT K ("law", none)).2) (c := (He.cT K ("law", none)).1) (j := 0) (k := 13) (ok__law_told T 13 (by omega)) c.room (by omega) (by rfl) (hB ("law", none) (by simp [tf])) rfl rfl (LamX.lamS_by (by rfl)) (fun A outer s H E f0 c0 c => (em_up (ed_call c.tk c.room (by omega) (ok_rolled T) (by rfl) (ad_cons (ed_var 5 (pv 5)) (ad_cons ed_int (ad_cons ed_int ad_nil))))))))
 (sms_cons (sm_appO (pv 7) (em_told (P := (He.cT K ("law", none)).2) (c := (He.cT K ("law", none)).1) (j := 0) (k := 13) (ok__law_told T 13 (by omega)) c.room (by omega) (by rfl) (hB ("law", none) (by simp [tf])) rfl rfl (LamX.lamS_by (by rfl)) (fun A outer s H E f0 c0 c => (em_up (ed_call c.tk c.room (by omega) (ok_framed T) (by rfl) (ad_cons (ed_var 5 (pv 5)) (ad_cons (ed_var 6 (pv 6)) ad_nil)))))))
 (sms_cons (sm_appO (pv 7) (em_told (P := (He.cT K ("law", none)).2) (c := (He.cT K ("law", none)).1) (j := 0) (k := 13) (ok__law_told T 13 (by omega)) c.room (by omega) (by rfl) (hB ("law", none) (by simp [tf])) rfl rfl (LamX.lamS_by (by rfl)) (fun A outer s H E f0 c0 c => (em_up (ed_call c.tk c.room (by omega) (ok_framed T) (by rfl) (ad_cons (ed_var 3 (pv 3)) (ad_cons (ed_var 6 (pv 6)) ad_nil)))))))
 (sms_frz 7 (sms_cons (sm_up (sd_if (td_cmp (op_neP (rm_of c.room)) sem_ne (ed_var 7 (pv 7)) (ed_op op_mulD sem_mul (ed_lst (ad_cons ed_str ad_nil)) ed_int) (nomark _))
  (sds_one (sd_ret ed_bl))
  sds_nil))
 (sms_cons (sm_if (tm_cmp (op_neP (rm_of c.room)) sem_ne (em_told (P := (He.cT K ("law", none)).2) (c := (He.cT K ("law", none)).1) (j := 0) (k := 13) (ok__law_told T 13 (by omega)) c.room (by omega) (by rfl) (hB ("law", none) (by simp [tf])) rfl rfl (LamX.lamS_by (by rfl)) (fun A outer s H E f0 c0 c => (em_up (ed_call c.tk c.room (by omega) (ok_runs_in T) (by rfl) (ad_cons (ed_var 3 (pv 3)) (ad_cons (ed_var 6 (pv 6)) ad_nil)))))) (em_up ed_str) (nomark _))
  (sms_up (sds_one (sd_ret ed_bl)))
  (sms_up sds_nil))
 (sms_one (sm_if (tm_cmp (op_neP (rm_of c.room)) sem_ne (em_told (P := (He.cT K ("law", none)).2) (c := (He.cT K ("law", none)).1) (j := 0) (k := 13) (ok__law_told T 13 (by omega)) c.room (by omega) (by rfl) (hB ("law", none) (by simp [tf])) rfl rfl (LamX.lamS_by (by rfl)) (fun A outer s H E f0 c0 c => (em_up (ed_call c.tk c.room (by omega) (ok_runs_in T) (by rfl) (ad_cons (ed_tup (ad_cons ed_int (ad_cons ed_int ad_nil))) (ad_cons ed_int ad_nil)))))) (em_up ed_str) (nomark _))
  (sms_up (sds_one (sd_ret ed_bl)))
  (sms_up sds_nil)))))))))))))))))
 (sms_up (sds_one (sd_ret (ed_and (ed_cmp (op_eqP (rm_of c.room)) sem_eq (ed_call c.tk c.room (by omega) (ok_runs_in T) (by rfl) (ad_cons (ed_var 3 (pv 3)) (ad_cons ed_int ad_nil))) (ed_lst (ad_cons (ed_tup (ad_cons ed_int (ad_cons ed_int ad_nil))) ad_nil)) (nomark _)) (ed_and (ed_cmp (op_eqP (rm_of c.room)) sem_eq (ed_call c.tk c.room (by omega) (ok_box_of T) (by rfl) (ad_cons (ed_var 3 (pv 3)) (ad_cons ed_int ad_nil))) (ed_tup (ad_cons ed_int (ad_cons ed_int (ad_cons ed_int (ad_cons ed_int ad_nil))))) (nomark _)) (ed_one (ed_cmp op_isD sem_is (ed_call c.tk c.room (by omega) (ok_box_of T) (by rfl) (ad_cons (ed_var 3 (pv 3)) (ad_cons ed_int ad_nil))) ed_non (nomark _))))))))))))))
end
def loose0 : List PySem.Str := ["FourError", "NoPicture", "NoSpot", "BadBox", "Unlike", "NoRule", "NoBlocks", "NoChange", "NoNumber", "NothingDone", "NoText", "NoName", "SIDES", "GREATEST", "is_worth", "is_tree", "is_picture", "look_picture", "quarter", "four"]
def loose1 : List PySem.Str := ["rows_in", "shown_rows", "tree_of", "of_rows", "look_worth", "worths_in", "box_of", "runs_in", "like_rows", "rolled", "framed", "_law_cell", "_law_pick", "_law_class", "_law_told"]
def loose : List PySem.Str := loose0 ++ (loose1)
abbrev Rw : PySem.W.OpenRow := PySem.W.OpenLaw.row PySem.Challenge.rw_fourfold_k06_measures_refused
abbrev hk : PySem.W.Hook := hookT 4 fa fn as tf
def ob (s : PySem.W.SharedT) : AlT := obsTG 4 fa fn as tf (HandSHeadRun.getT s)
theorem ob_eq (s : PySem.W.SharedT) : ob s = hk.obs s.abs := obsTG_eq (HandSHeadRun.getT_eq s)
theorem run (w : World) : HandSHeadRun.RunEq Rw (PySem.W.view Rw.prog [40]) hk ob 6000 loose w := by
  intro os
  kernel_rfl
/-- what is left: the plain law -/
abbrev Plain : Prop := ∀ ns : List Int, ns.length ≤ 63 → (∀ z ∈ ns, Builtin.Int.intBits z ≤ 1048576) → (m_law [.src ns] []).all fun r => r.1 = .ok (.bl true)
end FF
open PySem PySem.W PySem.Calls PyProof.Rows
theorem FF.holds_of (hp : FF.Plain) : PySem.Challenge.rw_fourfold_k06_measures_refused.Holds := by
  w_on; o_law
  refine HandSHeadRun.head_any (r := OpenLaw.row PySem.Challenge.rw_fourfold_k06_measures_refused) (q := view (OpenLaw.row PySem.Challenge.rw_fourfold_k06_measures_refused).prog [40]) (H := FF.hk) (ob := FF.ob) (M := 6000) (loose := FF.loose) (d := HandSHeadRun.topDef (OpenLaw.row PySem.Challenge.rw_fourfold_k06_measures_refused).prog 40) (kwd := []) FF.ob_eq
    (by kernel_rfl) (fun s => by kernel_rfl) FF.run (by kernel_rfl) (by kernel_rfl) (by kernel_rfl) (by rfl) (by first | assumption | decide +kernel) (by decide +kernel) ⟨rfl, rfl, rfl, rfl, rfl, by decide +kernel⟩ ?hw ?hc
  case hw => w_witness2
  case hc =>
    refine LamX.walk_ofTsE (l := PySem.Challenge.rw_fourfold_k06_measures_refused) (n := 63) (k := 16) (x := "_law_script") (CX := fun w => L2.CX (PySem.Challenge.rw_fourfold_k06_measures_refused).prog w) rfl (by decide) (by kernel_rfl) ⟨rfl, by decide, by decide⟩ ?F (fun _ _ _ _ _ z => FF.noCX z)
    intro w mg fa h Y G hmg0
    obtain ⟨K, KX, c, tt⟩ := Y
    have hmg : mg ("law" : PySem.Str) = some (.ref fa) := by
      have e : (HandSHeadRun.topDef (OpenLaw.row PySem.Challenge.rw_fourfold_k06_measures_refused).prog 40).name = ("law" : PySem.Str) := by kernel_rfl
      rw [← e]
      exact hmg0
    have T : FF.TT K mg := ⟨h, KX, G, c⟩
    have e := hmg.symm.trans (FF.gm_law T)
    cases e
    exact ⟨K, KX, FF.EndsT.at_ (FF.ends_law T) KX tt hp⟩
set_option maxHeartbeats 4000000
namespace FF
open PySem PySem.Spec PyProof.Rows L2
def cell (ns : List Int) (k : Int) : Int := if k < ns.length then (atI ns k).getD 0 else if ns = [] then 0 else (atI ns (k % ns.length)).getD 0 * 31 + k
def pick (ns : List Int) (k m : Int) : Int := (((cell ns k + 6151 * (k + 1)) * 40692 % 2147483399) * ((cell ns k + 6151 * (k + 1)) * 40692 % 2147483399) + ((cell ns k + 6151 * (k + 1)) * 40692 % 2147483399) / 31) % 2147483629 % m
theorem m_cell (ns : List Int) (k : Int) (hk : 0 ≤ k) : m__law_cell [.src ns, .int k] = .ok (.int (cell ns k)) := by
  rw [m__law_cell, runD_2]
  unfold b__law_cell cell
  by_cases h : k < ns.length
  · simp [h, List.replicate]
    rw [atI_of ns hk, List.getElem?_eq_getElem (by omega)]
    rfl
  · by_cases h0 : ns = []
    · subst h0
      simp at h
      simp [show ¬ (k < 0) by omega, List.replicate]
    · have hl : (0:Int) < (ns.length : Int) := by
        have := List.length_pos_iff.mpr h0
        omega
      have h1 := Int.emod_nonneg k (b := (ns.length : Int)) (by omega)
      have h2 := Int.emod_lt_of_pos k hl
      have e : (atI ns (k % (ns.length : Int))) = some (ns[(k % (ns.length : Int)).toNat]'(by omega)) := by
        rw [atI_of _ h1, List.getElem?_eq_getElem]
      have hl2 : 0 < ns.length := List.length_pos_iff.mpr h0
      simp [h, List.replicate, hl2, h0, e]
theorem m_pick (ns : List Int) (k m : Int) (hk : 0 ≤ k) (hm : 0 < m) : m__law_pick [.src ns, .int k, .int m] = .ok (.int (pick ns k m)) := by
  rw [m__law_pick, runD_3]
  unfold b__law_pick pick
  simp [m_cell ns k hk, List.replicate, hm]
  have h1 := Int.emod_nonneg ((cell ns k + 6151 * (k + 1)) * 40692) (b := 2147483399) (by omega)
  have h2 := Int.emod_lt_of_pos ((cell ns k + 6151 * (k + 1)) * 40692) (b := 2147483399) (by omega)
  rw [s64_of h1 (by omega)]
  simp [hm]
theorem pick_nn (ns : List Int) (k m : Int) (hm : 0 < m) : 0 ≤ pick ns k m := Int.emod_nonneg _ (by omega)
theorem pick_lt (ns : List Int) (k m : Int) (hm : 0 < m) : pick ns k m < m := Int.emod_lt_of_pos _ hm
def lsK : D → R D
  | .lst ds => (match intsOf ds with
    | some ns => if ns.length ≤ 4000 then .ok (.int ((distinct ns).length : Nat)) else .stuck
    | none => .stuck)
  | _ => .stuck
@[simp] theorem eLenSet_v (f : DE) (σ : Sd) : eLenSet f σ = (f σ >>= lsK) := by
  unfold eLenSet
  refine congrArg _ (funext fun d => ?_)
  cases d <;> rfl
@[simp] theorem eMtG_v (k : List D → D → Option Int) (ds : List D) (f : DE) (σ : Sd) : eMtG k ds f σ = (f σ >>= fun y => (plc k ds y).quiet) := rfl
def mtK (k : List D → D → Option Int) (r : R D) : D → R D
  | .lst ds => r >>= fun y => (plc k ds y).quiet
  | _ => .stuck
@[simp] theorem mtK_l (k : List D → D → Option Int) (r : R D) (ds : List D) : mtK k r (.lst ds) = (r >>= fun y => (plc k ds y).quiet) := rfl
@[simp] theorem eMtL_v (k : List D → D → Option Int) (fo f : DE) (σ : Sd) : eMtL k fo f σ = (fo σ >>= mtK k (f σ)) := by
  unfold eMtL
  refine congrArg _ (funext fun d => ?_)
  cases d <;> rfl
def box4 (a b c e : Int) : D := .tup [.int a, .int b, .int c, .int e]
@[simp] theorem box4_own (a b c e : Int) : (box4 a b c e).isOwn = false := rfl
@[simp] theorem box4_0 (a b c e : Int) : ixD (box4 a b c e) (.int 0) = .ok (.int a) := rfl
@[simp] theorem box4_1 (a b c e : Int) : ixD (box4 a b c e) (.int 1) = .ok (.int b) := rfl
@[simp] theorem box4_2 (a b c e : Int) : ixD (box4 a b c e) (.int 2) = .ok (.int c) := rfl
@[simp] theorem box4_3 (a b c e : Int) : ixD (box4 a b c e) (.int 3) = .ok (.int e) := rfl
@[simp] theorem box4_non (a b c e : Int) : isNonD (box4 a b c e) = false := rfl
def mx (a b : Int) : Int := if b > a then b else a
def mn (a b : Int) : Int := if b < a then b else a
inductive Rule where
  | first | last | least | greatest | sum | times | less | same
deriving DecidableEq
def Rule.fn : Rule → Int → Int → Int
  | .first, a, _ => a
  | .last, _, b => b
  | .least, a, b => if b < a then b else a
  | .greatest, a, b => if b > a then b else a
  | .sum, a, b => (a + b) % 10
  | .times, a, b => a * b % 10
  | .less, a, b => if a - b < 0 then -(a - b) else a - b
  | .same, a, b => if a = b then 1 else 0
def isQ : Tr → Bool
  | .w _ => false
  | .q _ _ _ _ => true
@[simp] theorem isiK_enc (t : Tr) : isiK "tuple" (enc t) = .ok (.bl (isQ t)) := by cases t <;> rfl
def sumN : Nat → (Nat → Int) → Int
  | 0, _ => 0
  | n + 1, g => sumN n g + g n
def ovl (a b c e l t w : Int) : Prop := mx a l < mn (a + c) (l + w) ∧ mx b t < mn (b + e) (t + w)
instance (a b c e l t w : Int) : Decidable (ovl a b c e l t w) := inferInstanceAs (Decidable (_ ∧ _))
def leafD (i : Int) : D := if i < 0 then .non else .int i
def encC : Tr → D
  | .w i => leafD i
  | .q a b c d => .tup [encC a, encC b, encC c, encC d]
@[simp] theorem leafD_own (i : Int) : (leafD i).isOwn = false := by unfold leafD; split <;> rfl
@[simp] theorem encC_own (t : Tr) : (encC t).isOwn = false := by cases t <;> first | exact leafD_own _ | rfl
@[simp] theorem isiK_encC (t : Tr) : isiK "tuple" (encC t) = .ok (.bl (isQ t)) := by
  cases t with
  | w i =>
    unfold encC leafD
    split <;> rfl
  | q => rfl
def chgF (s : Nat) (f : Fn2) : D := .tup [.int (s : Int), encC (leastF s f)]
def encChg (s : Nat) (t : Tr) : D := .tup [.int (s : Int), encC t]
@[simp] theorem chgF_own (s : Nat) (f : Fn2) : (chgF s f).isOwn = false := rfl
@[simp] theorem encChg_own (s : Nat) (f : Tr) : (encChg s f).isOwn = false := rfl
@[simp] theorem chgF_0 (s : Nat) (f : Fn2) : ixD (chgF s f) (.int 0) = .ok (.int (s : Int)) := rfl
@[simp] theorem chgF_1 (s : Nat) (f : Fn2) : ixD (chgF s f) (.int 1) = .ok (encC (leastF s f)) := rfl
@[simp] theorem encChg_0 (s : Nat) (f : Tr) : ixD (encChg s f) (.int 0) = .ok (.int (s : Int)) := rfl
@[simp] theorem encChg_1 (s : Nat) (f : Tr) : ixD (encChg s f) (.int 1) = .ok (encC f) := rfl
noncomputable instance Eqf.dec (s : Nat) (f g : Fn2) : Decidable (Eqf s f g) := Classical.propDecidable _
def encRowC (r : List Int) : D := .lst (r.map leafD)
def encRowsC (rs : List (List Int)) : D := .lst (rs.map encRowC)
@[simp] theorem encRowC_own (r : List Int) : (encRowC r).isOwn = false := rfl
@[simp] theorem encRowsC_own (r : List (List Int)) : (encRowsC r).isOwn = false := rfl
@[simp] theorem isNonD_leaf (i : Int) : isNonD (leafD i) = decide (i < 0) := by
  unfold leafD
  by_cases h : i < 0 <;> simp [h]
structure Bk where
  l : Int
  t : Int
  w : Int
  v : Int
deriving DecidableEq
def encB (b : Bk) : D := box4 b.l b.t b.w b.v
@[simp] theorem encB_own (b : Bk) : (encB b).isOwn = false := rfl
@[simp] theorem encB_0 (b : Bk) : ixD (encB b) (.int 0) = .ok (.int b.l) := rfl
@[simp] theorem encB_1 (b : Bk) : ixD (encB b) (.int 1) = .ok (.int b.t) := rfl
@[simp] theorem encB_2 (b : Bk) : ixD (encB b) (.int 2) = .ok (.int b.w) := rfl
@[simp] theorem encB_3 (b : Bk) : ixD (encB b) (.int 3) = .ok (.int b.v) := rfl
def tabD (g : Nat → Int) : D := .tup ((List.range 10).map fun k => .int (g k))
@[simp] theorem tabD_own (g : Nat → Int) : (tabD g).isOwn = false := rfl
def rowD (s : Nat) (f : Fn2) (y : Nat) : D := encRow ((List.range (2 ^ s)).map fun x => f x y)
@[simp] theorem rowD_own (s : Nat) (f : Fn2) (y : Nat) : (rowD s f y).isOwn = false := rfl
def acrD (s : Nat) (f : Fn2) : D := .lst ((List.range (2 ^ s)).map fun y => .int (sumN (2 ^ s) fun x => f x y))
def dwnD (s : Nat) (f : Fn2) : D := .lst ((List.range (2 ^ s)).map fun x => .int (sumN (2 ^ s) fun y => f x y))
@[simp] theorem acrD_own (s : Nat) (f : Fn2) : (acrD s f).isOwn = false := rfl
@[simp] theorem dwnD_own (s : Nat) (f : Fn2) : (dwnD s f).isOwn = false := rfl
def mapX {α : Type} (f : α → R D) : List α → R (List D)
  | [] => .ok []
  | a :: as => f a >>= fun y => mapX f as >>= fun ys => .ok (y :: ys)
@[simp] theorem eLcX_v (own : List Nat) (t : Tgt) (tt : Sd → R Bool) (te : DE) (fi : Sd → R (List D)) (σ : Sd) : eLcX own t tt te fi σ = (lcAllX own t tt te fi σ >>= fun ys => .ok (.lst ys)) := rfl
@[simp] theorem mapX_nil {α : Type} (f : α → R D) : mapX f [] = .ok [] := rfl
@[simp] theorem mapX_cons {α : Type} (f : α → R D) (a : α) (as : List α) : mapX f (a :: as) = (f a >>= fun y => mapX f as >>= fun ys => .ok (y :: ys)) := rfl
def callK (tab : List (Str × (List D → R D))) (fs : R (List D)) : D → R D
  | .fn x => (match tab.lookup x with
    | some m => fs >>= m
    | none => .stuck)
  | _ => .stuck
@[simp] theorem eCallF_v (tab : List (Str × (List D → R D))) (f0 : DE) (fs : Sd → R (List D)) (σ : Sd) : eCallF tab f0 fs σ = (f0 σ >>= callK tab (fs σ)) := by
  unfold eCallF
  refine congrArg _ (funext fun d => ?_)
  cases d <;> rfl
@[simp] theorem fn_own (x : Str) : (D.fn x).isOwn = false := rfl
@[simp] theorem eRevA_v (f : DE) (σ : Sd) : eRevA f σ = (f σ >>= rvA) := rfl
@[simp] theorem rvA_l (xs : List D) : rvA (.lst xs) = .ok (.lst xs.reverse) := rfl
@[simp] theorem rvA_t (xs : List D) : rvA (.tup xs) = .ok (.tup xs.reverse) := rfl
def borL : Nat → Sd → Sd
  | 0, some (.ol xs) :: σ => some (.lst xs) :: σ
  | i + 1, x :: σ => x :: borL i σ
  | _, σ => σ
@[simp] theorem borL_0 (xs : List D) (σ : Sd) : borL 0 (some (.ol xs) :: σ) = some (.lst xs) :: σ := rfl
@[simp] theorem borL_s (i : Nat) (x : Option D) (σ : Sd) : borL (i + 1) (x :: σ) = x :: borL i σ := rfl
theorem bor_get : ∀ (i : Nat) (σ : Sd), bor i σ = borL i σ
  | 0, [] => rfl
  | 0, x :: σ => by
    cases x with
    | none => rfl
    | some d => cases d <;> rfl
  | i + 1, [] => rfl
  | i + 1, x :: σ => by
    rw [borL_s, ← bor_get i σ]
    unfold bor
    rw [List.getElem?_cons_succ]
    cases σ[i]? with
    | none => rfl
    | some o =>
      cases o with
      | none => rfl
      | some d => cases d <;> rfl
@[simp] theorem tBor_v (i : Nat) (f : Sd → R Bool) (σ : Sd) : tBor i f σ = f (borL i σ) := by rw [tBor, bor_get]
@[simp] theorem sParO_v (i j : Nat) (fa : DE) (fl : Sd → R (List D)) (σ : Sd) : sParO i j fa fl σ = (fa σ).toOut σ fun d => (fl σ).toOut σ fun ds => if i < σ.length ∧ j < σ.length then .next ((σ.set i (some d)).set j (some (.ol ds))) else .stuck := rfl
def runE (p : Int × Nat) : D := .tup [.int p.1, .int (p.2 : Int)]
@[simp] theorem runE_own (p : Int × Nat) : (runE p).isOwn = false := rfl
@[simp] theorem runE_0 (p : Int × Nat) : ixD (runE p) (.int 0) = .ok (.int p.1) := rfl
@[simp] theorem runE_1 (p : Int × Nat) : ixD (runE p) (.int 1) = .ok (.int (p.2 : Int)) := rfl
def vis (L T W i j x y : Nat) : Prop := (T ≤ y ∧ y < T + W ∧ L ≤ x ∧ x < L + i) ∨ (x = L + i ∧ T ≤ y ∧ y < T + j)
instance (L T W i j x y : Nat) : Decidable (vis L T W i j x y) := by unfold vis; exact inferInstance
def visN (L T W k x y : Nat) : Prop := L ≤ x ∧ x < L + W ∧ T ≤ y ∧ (y - T) * W + (x - L) < k
instance (L T W k x y : Nat) : Decidable (visN L T W k x y) := by unfold visN; exact inferInstance
def encS (p : Int × Int) : D := .tup [.int p.1, .int p.2]
@[simp] theorem encS_own (p : Int × Int) : (encS p).isOwn = false := rfl
end FF
set_option maxHeartbeats 1000000
namespace FF
open PySem PySem.Spec PyProof.Rows L2
/-! what is no picture, no worth, no row -/
def isX (c : Str) : R D → Bool
  | .exc c' => decide (c' = c)
  | _ => false
theorem isX_ok {c : Str} {r : R D} (h : isX c r = true) : r = .exc c := by
  cases r with
  | exc c' => rw [of_decide_eq_true (show decide (c' = c) = true from h)]
  | ok d => cases h
  | stuck => cases h
def isS (w : Str) : R D → Bool
  | .ok (.str w') => decide (w' = w)
  | _ => false
theorem isS_ok {w : Str} {r : R D} (h : isS w r = true) : r = .ok (.str w) := by
  cases r with
  | ok d =>
    cases d with
    | str w' => rw [of_decide_eq_true (show decide (w' = w) = true from h)]
    | _ => cases h
  | exc c' => cases h
  | stuck => cases h
def oddL : List D := [.non, .tup [], .tup [.int 4, .int 0], .tup [.int 0, .tup [.int 1, .int 1, .int 1, .int 1]], .tup [.int 1, .tup [.int 1, .int 1, .int 1]], .lst [.int 0, .int 1], .tup [.bl true, .int 1], .tup [.int 1, .int 10], .tup [.int 0, .bl true],
  .tup [.int 2, .tup [.tup [.int 1, .int 2, .int 3, .int (-1)], .int 0, .int 0, .int 0]]]
def badL : List D := [.non, .int (-1), .int 10, .bl true, .str "1", .tup [.int 0], .lst [.int 1], .int 99]
def pictD : D := .tup [.int 1, .tup [.int 1, .int 2, .int 3, .int 3]]
def oddB (d : D) : Bool := !d.isOwn && (isX "NoPicture" (m_worths_in [d]) && (isX "NoPicture" (m_like_rows [d]) && isX "NoPicture" (m_rolled [d, .int 1, .int 1])))
def oddB2 (d w : D) : Bool := isX "NoPicture" (m_box_of [d, w]) && (isX "NoPicture" (m_runs_in [d, w]) && isX "NoPicture" (m_framed [d, w]))
def badB (w : D) : Bool := !w.isOwn && (isX "NoPicture" (m_box_of [pictD, w]) && (isX "NoPicture" (m_framed [pictD, w]) && isX "NoSpot" (m_runs_in [pictD, w])))
theorem odd_all : (oddL.all oddB) = true := by decide +kernel
theorem odd_all2 : (oddL.all fun d => badL.all fun w => oddB2 d w) = true := by decide +kernel
theorem bad_all : (badL.all badB) = true := by decide +kernel
theorem odd_1 {d : D} (h : d ∈ oddL) : d.isOwn = false ∧ m_worths_in [d] = .exc "NoPicture" ∧ m_like_rows [d] = .exc "NoPicture" ∧ m_rolled [d, .int 1, .int 1] = .exc "NoPicture" := by
  have q := List.all_eq_true.mp odd_all d h
  unfold oddB at q
  simp only [Bool.and_eq_true, Bool.not_eq_true'] at q
  exact ⟨q.1, isX_ok q.2.1, isX_ok q.2.2.1, isX_ok q.2.2.2⟩
theorem odd_2 {d w : D} (h : d ∈ oddL) (hw : w ∈ badL) : m_box_of [d, w] = .exc "NoPicture" ∧ m_runs_in [d, w] = .exc "NoPicture" ∧ m_framed [d, w] = .exc "NoPicture" := by
  have q := List.all_eq_true.mp (List.all_eq_true.mp odd_all2 d h) w hw
  unfold oddB2 at q
  simp only [Bool.and_eq_true] at q
  exact ⟨isX_ok q.1, isX_ok q.2.1, isX_ok q.2.2⟩
theorem bad_1 {w : D} (hw : w ∈ badL) : w.isOwn = false ∧ m_box_of [pictD, w] = .exc "NoPicture" ∧ m_framed [pictD, w] = .exc "NoPicture" ∧ m_runs_in [pictD, w] = .exc "NoSpot" := by
  have q := List.all_eq_true.mp bad_all w hw
  unfold badB at q
  simp only [Bool.and_eq_true, Bool.not_eq_true'] at q
  exact ⟨q.1, isX_ok q.2.1, isX_ok q.2.2.1, isX_ok q.2.2.2⟩
theorem cl_pic : m__law_class [.exc "NoPicture"] = .ok (.str "no picture") := isS_ok (by decide +kernel)
theorem cl_spot : m__law_class [.exc "NoSpot"] = .ok (.str "no spot") := isS_ok (by decide +kernel)
theorem runs_05 : m_runs_in [.tup [.int 0, .int 5], .int 1] = .exc "NoSpot" := isX_ok (by decide +kernel)
def isL32 : R D → Bool
  | .ok (.lst [.tup [.int a, .int b]]) => decide (a = 3 ∧ b = 2)
  | _ => false
theorem isL32_ok {r : R D} (h : isL32 r = true) : r = .ok (.lst [.tup [.int 3, .int 2]]) := by
  unfold isL32 at h
  split at h
  · obtain ⟨rfl, rfl⟩ := of_decide_eq_true h
    rfl
  · cases h
theorem runs_1 : m_runs_in [pictD, .int 1] = .ok (.lst [.tup [.int 3, .int 2]]) := isL32_ok (by decide +kernel)
def isB4 : R D → Bool
  | .ok (.tup [.int a, .int b, .int c, .int d]) => decide (a = 0 ∧ b = 1 ∧ c = 2 ∧ d = 1)
  | _ => false
theorem isB4_ok {r : R D} (h : isB4 r = true) : r = .ok (.tup [.int 0, .int 1, .int 2, .int 1]) := by
  unfold isB4 at h
  split at h
  · obtain ⟨rfl, rfl, rfl, rfl⟩ := of_decide_eq_true h
    rfl
  · cases h
theorem box_3 : m_box_of [pictD, .int 3] = .ok (.tup [.int 0, .int 1, .int 2, .int 1]) := isB4_ok (by decide +kernel)
def isN : R D → Bool
  | .ok .non => true
  | _ => false
theorem isN_ok {r : R D} (h : isN r = true) : r = .ok .non := by
  unfold isN at h
  split at h
  · rfl
  · cases h
theorem box_0 : m_box_of [pictD, .int 0] = .ok .non := isN_ok (by decide +kernel)
theorem atI_mem {α : Type} (xs : List α) (n m : Int) (hm : m = xs.length) (h0 : 0 < m) : ∃ x ∈ xs, L2.atI xs (n % m) = some x := by
  have h1 := Int.emod_nonneg n (b := m) (by omega)
  have h2 := Int.emod_lt_of_pos n h0
  rw [atI_of _ h1]
  exact ⟨xs[(n % m).toNat]'(by omega), List.getElem_mem _, List.getElem?_eq_getElem (by omega)⟩
theorem mul8 : mulD (.lst [.str "no picture"]) (.int 8) = .ok (.lst [.str "no picture", .str "no picture", .str "no picture", .str "no picture", .str "no picture", .str "no picture", .str "no picture", .str "no picture"]) := by simp [mulD, List.replicate, sz_le (n := 8) (by omega)]
theorem ne8 : neD (.lst [.str "no picture", .str "no picture", .str "no picture", .str "no picture", .str "no picture", .str "no picture", .str "no picture", .str "no picture"]) (.lst [.str "no picture", .str "no picture", .str "no picture", .str "no picture", .str "no picture", .str "no picture", .str "no picture", .str "no picture"]) = .ok (.bl false) := neD_same (by simp [clean, cleanL]) (by simp [dpt, dptL])
theorem ne1 : neD (.str "no spot") (.str "no spot") = .ok (.bl false) := neD_same (by simp [clean]) (by simp [dpt])
theorem eqL : eqD (.lst [.tup [.int 3, .int 2]]) (.lst [.tup [.int 3, .int 2]]) = .ok (.bl true) := eqD_same (by simp [clean, cleanL]) (by simp [dpt, dptL])
theorem eqB : eqD (.tup [.int 0, .int 1, .int 2, .int 1]) (.tup [.int 0, .int 1, .int 2, .int 1]) = .ok (.bl true) := eqD_same (by simp [clean, cleanL]) (by simp [dpt, dptL])
theorem plain_law (ns : List Int) : (m_law [.src ns] []).all fun r => r.1 = .ok (.bl true) := by
  have k0 := m_pick ns 0 10 (by omega) (by omega)
  have k0a := pick_nn ns 0 10 (by omega)
  have k0b := pick_lt ns 0 10 (by omega)
  have k1 := m_pick ns 1 8 (by omega) (by omega)
  have k1a := pick_nn ns 1 8 (by omega)
  have k1b := pick_lt ns 1 8 (by omega)
  generalize pick ns 0 10 = n0 at *
  generalize pick ns 1 8 = n1 at *
  have s8 : (8 : Nat) ≤ sizeLine := sz_le (by omega)
  have s9 : (9 : Nat) ≤ sizeLine := sz_le (by omega)
  have s10 : (10 : Nat) ≤ sizeLine := sz_le (by omega)
  have s4 : (4 : Nat) ≤ sizeLine := sz_le (by omega)
  have s3 : (3 : Nat) ≤ sizeLine := sz_le (by omega)
  have s2 : (2 : Nat) ≤ sizeLine := sz_le (by omega)
  have s1 : (1 : Nat) ≤ sizeLine := sz_le (by omega)
  have s0 : (0 : Nat) ≤ sizeLine := sz_le (by omega)
  have l1 : (1 : Nat) < sizeLine := Nat.lt_of_lt_of_le (by omega) s8
  have l2 : (2 : Nat) < sizeLine := Nat.lt_of_lt_of_le (by omega) s8
  have l3 : (3 : Nat) < sizeLine := Nat.lt_of_lt_of_le (by omega) s8
  have l4 : (4 : Nat) < sizeLine := Nat.lt_of_lt_of_le (by omega) s8
  have l5 : (5 : Nat) < sizeLine := Nat.lt_of_lt_of_le (by omega) s8
  have l6 : (6 : Nat) < sizeLine := Nat.lt_of_lt_of_le (by omega) s8
  have l7 : (7 : Nat) < sizeLine := Nat.lt_of_lt_of_le (by omega) s8
  rw [m_law, runM_1]
  unfold b_law
  simp -implicitDefEqProofs [List.replicate, mkTup, mkLst, szL, s0, s1, s2, s3, s4, s8, s9, s10, T.all_bind, forM_L, forLM_map, rangeD_def]
  have r1 := runs_1
  have b3 := box_3
  have b0 := box_0
  unfold pictD at r1 b3 b0
  refine forLM_allS (fun _ _ => True) (by rfl) trivial (fun pre a post hpre st _ => ?_) (fun st _ => ?_)
  · have ha : a < 4 := by
      have : a ∈ List.range 4 := by rw [hpre]; simp
      exact List.mem_range.mp this
    obtain ⟨d, hd, e1⟩ := atI_mem oddL (n0 + 3 * (a : Int)) 10 rfl (by omega)
    obtain ⟨w, hw, e2⟩ := atI_mem badL (n1 + 3 * (a : Int)) 8 rfl (by omega)
    obtain ⟨o0, o1, o2, o3⟩ := odd_1 hd
    obtain ⟨p1, p2, p3⟩ := odd_2 hd hw
    obtain ⟨w0, w1, w2, w3⟩ := bad_1 hw
    unfold oddL at e1
    unfold badL at e2
    unfold pictD at w1 w2 w3
    have sm : small64B (a : Int) = true := by unfold small64B; simp; omega
    simp -implicitDefEqProofs [List.replicate, mkTup, mkLst, szL, s0, s1, s2, s3, s4, s8, s9, s10, k0, k1, e1, e2, o0, o1, o2, o3, p1, p2, p3, w0, w1, w2, w3, sm, mul8, ne8, ne1, cl_pic, cl_spot, runs_05, cs, l1, l2, l3, l4, l5, l6, l7]
  · simp -implicitDefEqProofs [List.replicate, mkTup, mkLst, szL, s0, s1, s2, s3, s4, r1, b3, b0, eqL, eqB]
end FF
theorem PySem.Challenge.cw_fourfold_k06_measures_refused_holds : PySem.Challenge.rw_fourfold_k06_measures_refused.Holds :=
  FF.holds_of fun ns hl hb => FF.plain_law ns
