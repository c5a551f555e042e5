import PyProof.Rows.All
import HandS.ForMost
import HandS.ForExc
import HandS.Deep
import HandS.Zip
import HandS.TupAny
import HandS.TupMul
import HandS.Lambda
import HandS.Dict
import KE.KDictKeyed
import HandS.Walk
import KE.DataCmp
import HandS.CallSlots
import HandS.CallLocal
import HandS.IsInst
import HandS.ExcCtx
import KE.GoesEnum
import KE.SortData
import KE.DataMinMax
import KE.KDictCopyH
import HandS.HotCalls
import HandS.ExcIs
import HandS.Text
import KE.KDictZip
import KE.KItemsList
import HandS.ListItems
import HandS.Head0
import HandS.Head1
import HandS.Head2
import HandS.HeadHook1
import HandS.HeadHook2
import HandS.HeadEnd
import HandS.EndTab
import HandS.TupSets
import PySem.Challenge.RW_patrolsuntold_k03_whole_walks_without_lo
set_option Elab.async false
set_option linter.all false
set_option maxRecDepth 100000
set_option maxHeartbeats 4000000
namespace Q
open PySem PySem.Spec PyProof.Rows L2

inductive D where
  | non
  | bl (b : Bool)
  | int (i : Int)
  | str (x : Str)
  | lst (ds : List D)
  | tup (ds : List D)
  | dct (b : Bool) (ks vs : List D)
  | fn (f : Nat)
  | loc (n : Nat)
instance : Inhabited D := ⟨.non⟩
/-- what a mutable cell holds -/
inductive MO where
  | lst (ds : List D)
  | ins (c : Nat) (fs : List (Str × D))
structure Ex where
  k : Nat
  arg : Option D
inductive Res (α : Type) where
  | ok (a : α) (S : List MO)
  | exc (x : Ex) (S : List MO)
  | bad
abbrev M (α : Type) := List MO → Res α
def M.ret {α : Type} (a : α) : M α := fun S => .ok a S
def M.bnd {α β : Type} (m : M α) (k : α → M β) : M β := fun S => match m S with
  | .ok a S1 => k a S1
  | .exc x S1 => .exc x S1
  | .bad => .bad
def M.bad {α : Type} : M α := fun _ => .bad
def M.lift {α : Type} (o : Option α) : M α := fun S => match o with
  | some a => .ok a S
  | none => .bad
instance : Monad M where
  pure := M.ret
  bind := M.bnd
@[simp] theorem pure_ap {α : Type} (a : α) (S : List MO) : (pure a : M α) S = .ok a S := rfl
theorem bind_ap {α β : Type} (m : M α) (k : α → M β) (S : List MO) : (m >>= k) S = match m S with
  | .ok a S1 => k a S1
  | .exc x S1 => .exc x S1
  | .bad => .bad := rfl
@[simp] theorem lift_some {α : Type} (a : α) (S : List MO) : (M.lift (some a)) S = .ok a S := rfl
@[simp] theorem lift_none {α : Type} (S : List MO) : (M.lift (none : Option α)) S = .bad := rfl

structure Tb where
  P : Program
  w : World
  K : PySem.W.Frag
  fa : Nat → Option Addr
  ca : Nat → Option Addr
  tabs : List (Addr × Str)
/-- a world: the cells' addresses, what is frozen, what is tracked -/
structure Wo where
  lam : List Addr
  G : Hp
  H : Hp

mutual
def nkD : D → Option NestedKey
  | .int i => some (.num i)
  | .non => some .none
  | .tup ds => (nkA ds).map .tup
  | _ => none
def nkA : List D → Option (List NestedKey)
  | [] => some []
  | d :: ds => match nkD d, nkA ds with
    | some k, some ks => some (k :: ks)
    | _, _ => none
end
/-- what a dict's key is: a number, or a tuple -/
def keyOk : Bool → D → Bool
  | false, .int _ => true
  | true, .tup ds => match nkA ds with
    | some ks => decide ((NestedKey.tup ks).depth ≤ 8)
    | none => false
  | _, _ => false
/-- a dict whose keys are tuples, by its entries: a key, where it stands, the value -/
def DicN (P : Program) (w : World) (a : Addr) (xs : List (NestedKey × Addr × V)) : HO := .ext fun h => xs.length ≤ sizeLine ∧ (a == sysModules) = false ∧
  ∃ us : List (NestedKey × Addr × Value), Paired (fun p q => p.1 = q.1 ∧ p.2.1 = q.2.1 ∧ RelV p.2.2 q.2.2) xs us ∧ (us.map (·.1)).Nodup ∧
    ∃ o es ep, h.get? a = some o ∧ o.ExactDict ∧ o.data = .dict es ep ∧ es.toList = us.map (entryOfKey (nestedKind P w))
inductive DicSh (P : Program) (w : World) (a : Addr) : Bool → HO → List D → List V → List V → Prop
  | int (kvs : List (Int × V)) : DicSh P w a false (.dK (kvs.map fun p => (Sum.inl p.1, p.2))) (kvs.map fun p => .int p.1) (kvs.map fun p => .int p.1) (kvs.map (·.2))
  | tup (xs : List (NestedKey × Addr × V)) (ks : List D) (h : ks.map nkD = xs.map fun x => some x.1) (hk : ∀ k ∈ ks, keyOk true k = true) : DicSh P w a true (DicN P w a xs) ks (xs.map fun x => .ref x.2.1) (xs.map fun x => x.2.2)
mutual
inductive Rep (T : Tb) (lam : List Addr) (G : Hp) : D → V → Prop
  | non : Rep T lam G .non .non
  | bl (b : Bool) : Rep T lam G (.bl b) (.bl b)
  | int (i : Int) : Rep T lam G (.int i) (.int i)
  | str (x : Str) : Rep T lam G (.str x) (.str x)
  | lst {a : Addr} {vs : List V} {ds : List D} : Rd G a (.lst vs) → RepA T lam G ds vs → Rep T lam G (.lst ds) (.ref a)
  | tup {a : Addr} {vs : List V} {ds : List D} : SqT T.K G a vs → RepA T lam G ds vs → Rep T lam G (.tup ds) (.ref a)
  | dct {b : Bool} {a : Addr} {o : Obj} {u : HO} {ks vs : List D} {kv vv : List V} : G a = some (.frz o u) → DicSh T.P T.w a b u ks kv vv → RepA T lam G ks kv → RepA T lam G vs vv → Rep T lam G (.dct b ks vs) (.ref a)
  | fn {f : Nat} {a : Addr} : T.fa f = some a → Rep T lam G (.fn f) (.ref a)
  | loc {n : Nat} {a : Addr} : lam[n]? = some a → Rep T lam G (.loc n) (.ref a)
inductive RepA (T : Tb) (lam : List Addr) (G : Hp) : List D → List V → Prop
  | nil : RepA T lam G [] []
  | cons {d : D} {v : V} {ds : List D} {vs : List V} : Rep T lam G d v → RepA T lam G ds vs → RepA T lam G (d :: ds) (v :: vs)
end

theorem same_rd {H H' : Hp} {a : Addr} {o : HO} (e : Same H H') (h : Rd H a o) : Rd H' a o := by
  rcases h with h | ⟨u, h⟩
  · exact .inl (e _ _ h)
  · exact .inr ⟨u, e _ _ h⟩
theorem same_seqT {K : PySem.W.Frag} {H H' : Hp} {a : Addr} {xs : List V} (e : Same H H') (h : SqT K H a xs) : SqT K H' a xs := by
  rcases h with (h | ⟨o, h⟩) | h
  · exact .inl (.inl (e _ _ h))
  · exact .inl (.inr ⟨o, e _ _ h⟩)
  · exact .inr h
section
variable {T : Tb} {lam lam' l : List Addr} {G G' : Hp}
theorem get_pre {i : Nat} {a : Addr} (h : lam[i]? = some a) : (lam ++ l)[i]? = some a := by
  have hi : i < lam.length := (List.getElem?_eq_some_iff.mp h).1
  rw [List.getElem?_append_left hi]; exact h
mutual
theorem Rep.mono (hl : lam' = lam ++ l) (g : Same G G') : ∀ {d : D} {v : V}, Rep T lam G d v → Rep T lam' G' d v
  | _, _, .non => .non
  | _, _, .bl b => .bl b
  | _, _, .int i => .int i
  | _, _, .str x => .str x
  | _, _, .lst h r => .lst (same_rd g h) (RepA.mono hl g r)
  | _, _, .tup h r => .tup (same_seqT g h) (RepA.mono hl g r)
  | _, _, .dct h s r q => .dct (g _ _ h) s (RepA.mono hl g r) (RepA.mono hl g q)
  | _, _, .fn h => .fn h
  | _, _, .loc h => .loc (by rw [hl]; exact get_pre h)
theorem RepA.mono (hl : lam' = lam ++ l) (g : Same G G') : ∀ {ds : List D} {vs : List V}, RepA T lam G ds vs → RepA T lam' G' ds vs
  | _, _, .nil => .nil
  | _, _, .cons h r => .cons (Rep.mono hl g h) (RepA.mono hl g r)
end
theorem RepA.length : ∀ {ds : List D} {vs : List V}, RepA T lam G ds vs → ds.length = vs.length
  | _, _, .nil => rfl
  | _, _, .cons _ r => by simp [RepA.length r]
theorem RepA.app : ∀ {ds es : List D} {vs us : List V}, RepA T lam G ds vs → RepA T lam G es us → RepA T lam G (ds ++ es) (vs ++ us)
  | _, _, _, _, .nil, s => s
  | _, _, _, _, .cons h r, s => .cons h (r.app s)
theorem RepA.get : ∀ {ds : List D} {vs : List V} {i : Nat} {v : V}, RepA T lam G ds vs → vs[i]? = some v → ∃ d, ds[i]? = some d ∧ Rep T lam G d v
  | _, _, _, _, .nil, e => by simp at e
  | _, _, 0, _, .cons h _, e => by
    have e' := Option.some.inj e; subst e'; exact ⟨_, rfl, h⟩
  | _, _, i + 1, v, .cons _ r, e => by
    obtain ⟨d, h1, h2⟩ := RepA.get (i := i) r (by simpa using e)
    exact ⟨d, by simpa using h1, h2⟩
theorem RepA.getD : ∀ {ds : List D} {vs : List V} {i : Nat} {d : D}, RepA T lam G ds vs → ds[i]? = some d → ∃ v, vs[i]? = some v ∧ Rep T lam G d v
  | _, _, _, _, .nil, e => by simp at e
  | _, _, 0, _, .cons h _, e => by
    have e' := Option.some.inj e; subst e'; exact ⟨_, rfl, h⟩
  | _, _, i + 1, v, .cons _ r, e => by
    obtain ⟨d, h1, h2⟩ := RepA.getD (i := i) r (by simpa using e)
    exact ⟨d, by simpa using h1, h2⟩
theorem RepA.take : ∀ {ds : List D} {vs : List V} (n : Nat), RepA T lam G ds vs → RepA T lam G (ds.take n) (vs.take n)
  | _, _, 0, _ => .nil
  | _, _, _ + 1, .nil => .nil
  | _, _, n + 1, .cons h r => .cons h (r.take n)
theorem RepA.drop : ∀ {ds : List D} {vs : List V} (n : Nat), RepA T lam G ds vs → RepA T lam G (ds.drop n) (vs.drop n)
  | _, _, 0, r => r
  | _, _, _ + 1, .nil => .nil
  | _, _, n + 1, .cons _ r => r.drop n
theorem RepA.rev : ∀ {ds : List D} {vs : List V}, RepA T lam G ds vs → RepA T lam G ds.reverse vs.reverse
  | _, _, .nil => .nil
  | _, _, .cons h r => by
    rw [List.reverse_cons, List.reverse_cons]
    exact r.rev.app (.cons h .nil)
theorem RepA.set : ∀ {ds : List D} {vs : List V} {d : D} {v : V} (i : Nat), Rep T lam G d v → RepA T lam G ds vs → RepA T lam G (ds.set i d) (vs.set i v)
  | _, _, _, _, _, _, .nil => .nil
  | _, _, _, _, 0, q, .cons h r => .cons q r
  | _, _, _, _, i + 1, q, .cons h r => .cons h (r.set i q)
end

structure Ext (w w' : Wo) : Prop where
  lam : ∃ l, w'.lam = w.lam ++ l
  new : ∀ a ∈ w'.lam, a ∈ w.lam ∨ w.H a = none
  g : Same w.G w'.G
  gnew : ∀ a, w.H a ≠ none → w.G a = none → w'.G a = none
  fr : ∀ b o, w.H b = some o → (∀ ps, o ≠ .tbl ps) → b ∉ w.lam → w'.H b = some o
  there : ∀ a, w.H a ≠ none → w'.H a ≠ none
theorem Ext.refl (w : Wo) : Ext w w := ⟨⟨[], by simp⟩, fun a h => .inl h, Same.refl _, fun _ _ h => h, fun _ _ h _ _ => h, fun _ h => h⟩
theorem Ext.out {w w' : Wo} (e : Ext w w') {a : Addr} {o : HO} (h : w.H a = some o) (n : a ∉ w.lam) : a ∉ w'.lam := fun z => by
  rcases e.new a z with q | q
  · exact n q
  · rw [h] at q; cases q
theorem Ext.trans {w w1 w2 : Wo} (a : Ext w w1) (b : Ext w1 w2) : Ext w w2 where
  lam := by
    obtain ⟨l, h⟩ := a.lam
    obtain ⟨m, h'⟩ := b.lam
    exact ⟨l ++ m, by rw [h', h, List.append_assoc]⟩
  new := fun x hx => by
    rcases b.new x hx with q | q
    · exact a.new x q
    · refine .inr (Classical.byContradiction fun z => a.there x z q)
  g := a.g.trans b.g
  gnew := fun x h1 h2 => b.gnew x (a.there x h1) (a.gnew x h1 h2)
  fr := fun x o h1 h2 h3 => b.fr x o (a.fr x o h1 h2 h3) h2 (a.out h1 h3)
  there := fun x h => b.there x (a.there x h)
theorem Rep.ext {T : Tb} {w w' : Wo} (e : Ext w w') {d : D} {v : V} (r : Rep T w.lam w.G d v) : Rep T w'.lam w'.G d v := by
  obtain ⟨l, hl⟩ := e.lam
  exact r.mono hl e.g
theorem RepA.ext {T : Tb} {w w' : Wo} (e : Ext w w') {ds : List D} {vs : List V} (r : RepA T w.lam w.G ds vs) : RepA T w'.lam w'.G ds vs := by
  obtain ⟨l, hl⟩ := e.lam
  exact r.mono hl e.g

/-- the attributes of an instance -/
def FsRep (T : Tb) (lam : List Addr) (G : Hp) : List (Str × D) → List (Str × V) → Prop := Paired fun p q => p.1 = q.1 ∧ Rep T lam G p.2 q.2
def MOk (T : Tb) (w : Wo) (a : Addr) : MO → Prop
  | .lst ds => ∃ vs, w.H a = some (.lst vs) ∧ RepA T w.lam w.G ds vs
  | .ins c fs => ∃ C dx fvs, T.ca c = some C ∧ w.H a = some (.ins C dx fvs) ∧ w.H dx = some (.own a) ∧ w.G dx = none ∧ dx ∉ w.lam ∧ FsRep T w.lam w.G fs fvs
structure Wd (T : Tb) (w : Wo) (S : List MO) : Prop where
  len : w.lam.length = S.length
  nd : w.lam.Nodup
  sub : Same w.G w.H
  out : ∀ a ∈ w.lam, w.G a = none
  obj : ∀ (n : Nat) (a : Addr) (m : MO), w.lam[n]? = some a → S[n]? = some m → MOk T w a m
  tabs : LamX.Tabs T.tabs w.H
  notb : ∀ b ps, w.G b ≠ some (.tbl ps)

/-- a step that only makes new things -/
structure Alc (w w' : Wo) : Prop where
  lam : w'.lam = w.lam
  h : Same w.H w'.H
  g : Same w.G w'.G
  sub : Same w'.G w'.H
  gnew : ∀ a, w.H a ≠ none → w.G a = none → w'.G a = none
  notb : ∀ b ps, w'.G b ≠ some (.tbl ps)
theorem Alc.refl {T : Tb} {w : Wo} {S : List MO} (d : Wd T w S) : Alc w w := ⟨rfl, Same.refl _, Same.refl _, d.sub, fun _ _ h => h, d.notb⟩
theorem Alc.ext {w w' : Wo} (a : Alc w w') : Ext w w' where
  lam := ⟨[], by rw [a.lam]; simp⟩
  new := fun x h => .inl (by rw [← a.lam]; exact h)
  g := a.g
  gnew := a.gnew
  fr := fun b o h _ _ => a.h b o h
  there := fun b h => by
    cases q : w.H b with
    | none => exact absurd q h
    | some o => rw [a.h b o q]; exact fun z => by cases z
theorem paired_imp {α β : Type} {F F' : α → β → Prop} (h : ∀ a b, F a b → F' a b) : ∀ {l : List α} {m : List β}, Paired F l m → Paired F' l m
  | _, _, .nil => .nil
  | _, _, .cons a r => .cons (h _ _ a) (paired_imp h r)
theorem MOk.keep {T : Tb} {w w' : Wo} {a : Addr} {m : MO} (e : Ext w w') (h : MOk T w a m) (ha : w'.H a = w.H a) : MOk T w' a m := by
  obtain ⟨l, hl⟩ := e.lam
  cases m with
  | lst ds =>
    obtain ⟨vs, h1, h2⟩ := h
    exact ⟨vs, ha.trans h1, h2.ext e⟩
  | ins c fs =>
    obtain ⟨C, dx, fvs, h0, h1, h2, h3, h4, h5⟩ := h
    exact ⟨C, dx, fvs, h0, ha.trans h1, e.fr _ _ h2 (fun _ z => by cases z) h4, e.gnew _ (by rw [h2]; exact fun z => by cases z) h3, e.out h2 h4, paired_imp (fun p q x => ⟨x.1, x.2.ext e⟩) h5⟩
theorem Wd.alc {T : Tb} {w w' : Wo} {S : List MO} (d : Wd T w S) (a : Alc w w') : Wd T w' S where
  len := by rw [a.lam]; exact d.len
  nd := by rw [a.lam]; exact d.nd
  sub := a.sub
  out := fun x h => by
    rw [a.lam] at h
    refine a.gnew x ?_ (d.out x h)
    obtain ⟨n, hn, e⟩ := List.mem_iff_getElem.mp h
    have hs : n < S.length := by rw [← d.len]; exact hn
    have q := d.obj n x S[n] (by rw [List.getElem?_eq_getElem hn, e]) (List.getElem?_eq_getElem hs)
    cases hm : S[n] with
    | lst ds => rw [hm] at q; obtain ⟨vs, h1, _⟩ := q; rw [h1]; exact fun z => by cases z
    | ins c fs => rw [hm] at q; obtain ⟨C, dx, fvs, _, h1, _⟩ := q; rw [h1]; exact fun z => by cases z
  obj := fun n x m h1 h2 => by
    rw [a.lam] at h1
    have q := d.obj n x m h1 h2
    refine q.keep a.ext ?_
    cases m with
    | lst ds => obtain ⟨vs, h1, _⟩ := q; rw [h1, a.h _ _ h1]
    | ins c fs => obtain ⟨C, dx, fvs, _, h1, _⟩ := q; rw [h1, a.h _ _ h1]
  tabs := d.tabs.ext a.h
  notb := a.notb
/-- one new thing, frozen -/
theorem alc_one {T : Tb} {w : Wo} {S : List MO} (d : Wd T w S) {p : Addr} {o : HO} (hp : w.H p = none) (ho : ∀ ps, o ≠ .tbl ps) : Alc w ⟨w.lam, upd w.G p o, upd w.H p o⟩ := by
  have gp : w.G p = none := d.sub.free hp
  refine ⟨rfl, fun b u h => ?_, fun b u h => ?_, fun b u h => ?_, fun a h1 h2 => ?_, fun b ps h => ?_⟩
  · show upd w.H p o b = some u
    rw [upd_ne (ne_of_none h hp)]; exact h
  · show upd w.G p o b = some u
    rw [upd_ne (ne_of_none h gp)]; exact h
  · by_cases e : b = p
    · subst e
      have h' : upd w.G b o b = some u := h
      rw [upd_same] at h'
      show upd w.H b o b = some u
      rw [upd_same]; exact h'
    · have h' : upd w.G p o b = some u := h
      rw [upd_ne e] at h'
      show upd w.H p o b = some u
      rw [upd_ne e]; exact d.sub b u h'
  · have e : a ≠ p := fun z => h1 (by rw [z]; exact hp)
    show upd w.G p o a = none
    rw [upd_ne e]; exact h2
  · have h' : upd w.G p o b = some (.tbl ps) := h
    by_cases e : b = p
    · subst e
      rw [upd_same] at h'
      exact ho ps (Option.some.inj h')
    · rw [upd_ne e] at h'
      exact d.notb b ps h'
end Q
set_option Elab.async false
set_option linter.all false
set_option maxRecDepth 100000
set_option maxHeartbeats 4000000
namespace Q
open PySem PySem.Spec PyProof.Rows L2

abbrev Sl := L2.St
inductive SV where
  | un
  | val (d : D)
  | own (ds : List D)
  | dic (b : Bool) (ks vs : List D)
  | raw (v : V)
instance : Inhabited SV := ⟨.un⟩
def SV.isOwn : SV → Bool
  | .own _ => true
  | .dic _ _ _ => true
  | _ => false
def SVok (T : Tb) (w : Wo) : SV → Option V → Prop
  | .un, _ => True
  | .val d, ov => ∃ v, ov = some v ∧ Rep T w.lam w.G d v
  | .own ds, ov => ∃ a vs, ov = some (.ref a) ∧ w.H a = some (.lst vs) ∧ w.G a = none ∧ a ∉ w.lam ∧ RepA T w.lam w.G ds vs
  | .dic b ks vs, ov => ∃ a u kv vv, ov = some (.ref a) ∧ w.H a = some u ∧ DicSh T.P T.w a b u ks kv vv ∧ w.G a = none ∧ a ∉ w.lam ∧ RepA T w.lam w.G ks kv ∧ RepA T w.lam w.G vs vv
  | .raw v, ov => ov = some v
structure RS (T : Tb) (w : Wo) (sd : List SV) (σ : Sl) : Prop where
  len : sd.length = σ.length
  at_ : ∀ (i : Nat) (sv : SV) (ov : Option V), sd[i]? = some sv → σ[i]? = some ov → SVok T w sv ov
  ap : ∀ (i j : Nat) (si sj : SV) (a : Addr), i ≠ j → sd[i]? = some si → sd[j]? = some sj → si.isOwn = true → sj.isOwn = true → σ[i]? = some (some (.ref a)) → σ[j]? ≠ some (some (.ref a))
theorem DicSh.notb {P : Program} {w : World} {a : Addr} {b : Bool} {u : HO} {ks : List D} {kv vv : List V} (h : DicSh P w a b u ks kv vv) {ps : Array Value} (z : u = .tbl ps) : False := by
  cases h <;> cases z
theorem SVok.ext {T : Tb} {w w' : Wo} (e : Ext w w') {sv : SV} {ov : Option V} (h : SVok T w sv ov) : SVok T w' sv ov := by
  cases sv with
  | un => trivial
  | val d => obtain ⟨v, h1, h2⟩ := h; exact ⟨v, h1, h2.ext e⟩
  | own ds =>
    obtain ⟨a, vs, h1, h2, h3, h4, h5⟩ := h
    exact ⟨a, vs, h1, e.fr _ _ h2 (fun _ z => by cases z) h4, e.gnew _ (by rw [h2]; exact fun z => by cases z) h3, e.out h2 h4, h5.ext e⟩
  | dic b ks vs =>
    obtain ⟨a, u, kv, vv, h1, h2, h3, h4, h5, h6, h7⟩ := h
    exact ⟨a, u, kv, vv, h1, e.fr _ _ h2 (fun _ z => h3.notb z) h5, h3, e.gnew _ (by rw [h2]; exact fun z => by cases z) h4, e.out h2 h5, h6.ext e, h7.ext e⟩
  | raw vv => exact h
theorem RS.ext {T : Tb} {w w' : Wo} {sd : List SV} {σ : Sl} (r : RS T w sd σ) (e : Ext w w') : RS T w' sd σ :=
  ⟨r.len, fun i sv ov h1 h2 => (r.at_ i sv ov h1 h2).ext e, r.ap⟩
theorem RS.get {T : Tb} {w : Wo} {sd : List SV} {σ : Sl} (r : RS T w sd σ) {i : Nat} {sv : SV} (h : sd[i]? = some sv) : ∃ ov, σ[i]? = some ov ∧ SVok T w sv ov := by
  have hi : i < sd.length := (List.getElem?_eq_some_iff.mp h).1
  have hj : i < σ.length := by rw [← r.len]; exact hi
  exact ⟨σ[i], List.getElem?_eq_getElem hj, r.at_ i sv _ h (List.getElem?_eq_getElem hj)⟩
/-- a slot gets a value -/
theorem RS.setv {T : Tb} {w : Wo} {sd : List SV} {σ : Sl} (r : RS T w sd σ) (i : Nat) {d : D} {v : V} (h : Rep T w.lam w.G d v) : RS T w (sd.set i (.val d)) (σ.set i (some v)) := by
  refine ⟨by simp [r.len], fun j sv ov h1 h2 => ?_, fun j k sj sk a hjk h1 h2 o1 o2 h3 h4 => ?_⟩
  · by_cases e : i = j
    · subst e
      rw [List.getElem?_set_self'] at h1 h2
      cases q : sd[i]? with
      | none => rw [q] at h1; cases h1
      | some z =>
        rw [q] at h1
        obtain ⟨o', ho', _⟩ := r.get q
        rw [ho'] at h2
        cases h1; cases h2
        exact ⟨v, rfl, h⟩
    · rw [List.getElem?_set_ne e] at h1 h2
      exact r.at_ j sv ov h1 h2
  · have nj : i ≠ j := fun e => by
      subst e
      rw [List.getElem?_set_self'] at h1
      cases q : sd[i]? with
      | none => rw [q] at h1; cases h1
      | some z => rw [q] at h1; cases h1; cases o1
    have nk : i ≠ k := fun e => by
      subst e
      rw [List.getElem?_set_self'] at h2
      cases q : sd[i]? with
      | none => rw [q] at h2; cases h2
      | some z => rw [q] at h2; cases h2; cases o2
    rw [List.getElem?_set_ne nj] at h1 h3
    rw [List.getElem?_set_ne nk] at h2 h4
    exact r.ap j k sj sk a hjk h1 h2 o1 o2 h3 h4

/-- how an exception lies -/
def ExR (T : Tb) (w : Wo) (x : Ex) (cls : Value) (d : Option Addr) : Prop :=
  ∃ C, T.ca x.k = some C ∧ cls = .ref C ∧ match x.arg with
    | none => d = none
    | some v => ∃ dx, d = some dx ∧ ∃ f u, w.H dx = some (.xd [(f, u)]) ∧ Rep T w.lam w.G v u
/-- what a reading wants of an outcome -/
def PG {α β : Type} (T : Tb) (W : Value → Option Addr → Hp → Prop) (R : Wo → α → β → Prop) (Q : β → Hp → Prop) (w : Wo) : Res α → Prop
  | .ok a S => ∀ b w', Ext w w' → Wd T w' S → R w' a b → Q b w'.H
  | .exc x S => ∀ cls d w', Ext w w' → Wd T w' S → ExR T w' x cls d → W cls d w'.H
  | .bad => False
theorem PG.shift {α β : Type} {T : Tb} {W : Value → Option Addr → Hp → Prop} {R : Wo → α → β → Prop} {Q : β → Hp → Prop} {w w1 : Wo} {r : Res α} (h : PG T W R Q w r) (e : Ext w w1) : PG T W R Q w1 r := by
  cases r with
  | ok a S => exact fun b w' e' => h b w' (e.trans e')
  | exc x S => exact fun c d w' e' => h c d w' (e.trans e')
  | bad => exact h
/-- one thing behind another -/
theorem PG.bnd {α β α' β' : Type} {T : Tb} {W : Value → Option Addr → Hp → Prop} {R : Wo → α → β → Prop} {R' : Wo → α' → β' → Prop} {Q : β' → Hp → Prop} {Q1 : β → Hp → Prop} {w : Wo} {m : M α} {S : List MO} {k : α → M α'}
    (h : PG T W R' Q w ((m >>= k) S)) (hq : ∀ a S1 b w1, Ext w w1 → Wd T w1 S1 → R w1 a b → PG T W R' Q w1 (k a S1) → Q1 b w1.H) : PG T W R Q1 w (m S) := by
  rw [bind_ap] at h
  cases e : m S with
  | ok a S1 => rw [e] at h; exact fun b w1 e1 d1 r1 => hq a S1 b w1 e1 d1 r1 (h.shift e1)
  | exc x S1 => rw [e] at h; exact h
  | bad => rw [e] at h; exact h
/-- .. what is wanted told from an earlier world -/
theorem PG.bnd2 {α β α' β' : Type} {T : Tb} {W : Value → Option Addr → Hp → Prop} {R : Wo → α → β → Prop} {R' : Wo → α' → β' → Prop} {Q : β' → Hp → Prop} {Q1 : β → Hp → Prop} {w0 w : Wo} {m : M α} {S : List MO} {k : α → M α'}
    (h : PG T W R' Q w0 ((m >>= k) S)) (e0 : Ext w0 w) (hq : ∀ a S1 b w1, Ext w w1 → Wd T w1 S1 → R w1 a b → PG T W R' Q w0 (k a S1) → Q1 b w1.H) : PG T W R Q1 w (m S) := by
  rw [bind_ap] at h
  cases e : m S with
  | ok a S1 => rw [e] at h; exact fun b w1 e1 d1 r1 => hq a S1 b w1 e1 d1 r1 h
  | exc x S1 => rw [e] at h; exact h.shift e0
  | bad => rw [e] at h; exact h
/-- .. by an operation that makes things alone -/
theorem PG.fin {α β : Type} {T : Tb} {W : Value → Option Addr → Hp → Prop} {R : Wo → α → β → Prop} {Q : β → Hp → Prop} {w : Wo} {o : Option α} {S : List MO} (h : PG T W R Q w (M.lift o S)) (d : Wd T w S) :
    ∃ a, o = some a ∧ ∀ b w', Alc w w' → R w' a b → Q b w'.H := by
  cases o with
  | none => exact h.elim
  | some a => exact ⟨a, rfl, fun b w' x r => h b w' x.ext (d.alc x) r⟩

/-- a value, or a list that its slot alone holds -/
def RepB (T : Tb) (w : Wo) (d : D) (v : V) : Prop :=
  Rep T w.lam w.G d v ∨ (∃ ds a vs, d = .lst ds ∧ v = .ref a ∧ w.H a = some (.lst vs) ∧ a ∉ w.lam ∧ RepA T w.lam w.G ds vs) ∨
    ∃ b ks vs a u kv vv, d = .dct b ks vs ∧ v = .ref a ∧ w.H a = some u ∧ DicSh T.P T.w a b u ks kv vv ∧ a ∉ w.lam ∧ RepA T w.lam w.G ks kv ∧ RepA T w.lam w.G vs vv
theorem RepB.ext {T : Tb} {w w' : Wo} (e : Ext w w') {d : D} {v : V} (r : RepB T w d v) : RepB T w' d v := by
  rcases r with r | ⟨ds, a, vs, h1, h2, h3, h4, h5⟩ | ⟨b, ks, vs, a, u, kv, vv, h1, h2, h3, h4, h5, h6, h7⟩
  · exact .inl (r.ext e)
  · exact .inr (.inl ⟨ds, a, vs, h1, h2, e.fr _ _ h3 (fun _ z => by cases z) h4, e.out h3 h4, h5.ext e⟩)
  · exact .inr (.inr ⟨b, ks, vs, a, u, kv, vv, h1, h2, e.fr _ _ h3 (fun _ z => h4.notb z) h5, h4, e.out h3 h5, h6.ext e, h7.ext e⟩)
abbrev RepV (T : Tb) : Wo → D → V → Prop := fun w d v => Rep T w.lam w.G d v
abbrev RepL (T : Tb) : Wo → List D → List V → Prop := fun w ds vs => RepA T w.lam w.G ds vs

/-- the reading of an expression by f -/
def tR {β : Type} {α : Type} (T : Tb) (W : WX) (R : Wo → α → β → Prop) (f : List SV → M α) : Sl → Hp → (β → Hp → Prop) → Prop := fun σ H Q =>
  ∃ sd S w, w.H = H ∧ Wd T w S ∧ RS T w sd σ ∧ PG T (fun c d H' => W c d σ H') R Q w (f sd S)
abbrev tM (T : Tb) (W : WX) (f : List SV → M D) : TE := tR T W (RepV T) f
abbrev tMB (T : Tb) (W : WX) (f : List SV → M D) : TE := tR T W (RepB T) f
abbrev tML (T : Tb) (W : WX) (f : List SV → M (List D)) : TA := tR T W (RepL T) f
abbrev tMT (T : Tb) (W : WX) (f : List SV → M Bool) : TT := tR T W (fun _ a b => a = b) f
section
variable {X : Cx} {T : Tb} {W : WX}
theorem PE.imp {e : Expr} {t t' : TE} (h : PE X e t) (hi : ∀ σ H Q, t' σ H Q → t σ H Q) : PE X e t' := ⟨fun pins s σ H Q I q => h.run pins s σ H Q I (hi σ H Q q)⟩
theorem PT.imp {e : Expr} {t t' : TT} (h : PT X e t) (hi : ∀ σ H Q, t' σ H Q → t σ H Q) : PT X e t' := ⟨fun pins s σ H Q I q => h.run pins s σ H Q I (hi σ H Q q)⟩
theorem PW.imp {e : Expr} {t t' : TT} (h : PW X e t) (hi : ∀ σ H Q, t' σ H Q → t σ H Q) : PW X e t' := ⟨fun wh pins s σ H Q I q => h.run wh pins s σ H Q I (hi σ H Q q)⟩
theorem PA.imp {e : List Expr} {t t' : TA} (h : PA X e t) (hi : ∀ σ H Q, t' σ H Q → t σ H Q) : PA X e t' := ⟨fun pos pins s σ H Q I q => h.run pos pins s σ H Q I (hi σ H Q q)⟩
theorem PS.imp {e : Stmt} {t t' : TS} (h : PS X e t) (hi : ∀ Dd σ H, t' Dd σ H → t Dd σ H) : PS X e t' := ⟨fun pins s σ H Dd I q => h.run pins s σ H Dd I (hi Dd σ H q)⟩
theorem PSs.imp {e : List Stmt} {t t' : TS} (h : PSs X e t) (hi : ∀ Dd σ H, t' Dd σ H → t Dd σ H) : PSs X e t' := ⟨fun pins s σ H Dd I q => h.run pins s σ H Dd I (hi Dd σ H q)⟩
/-- a value is a value that may be lent -/
theorem lend {e : Expr} {f : List SV → M D} (h : PE X e (tM T W f)) : PE X e (tMB T W f) := PE.imp h fun σ H Q ⟨sd, S, w, h1, h2, h3, h4⟩ => ⟨sd, S, w, h1, h2, h3, by
  cases r : f sd S with
  | ok a S1 => rw [r] at h4; exact fun b w' e d q => h4 b w' e d (.inl q)
  | exc x S1 => rw [r] at h4; exact h4
  | bad => rw [r] at h4; exact h4⟩
/-- one thing behind another -/
theorem tR_bnd {α β α' β' : Type} {R : Wo → α → β → Prop} {R' : Wo → α' → β' → Prop} {f : List SV → M α} {k : List SV → α → M α'} {σ : Sl} {H : Hp} {Q : β' → Hp → Prop} {Q1 : β → Hp → Prop}
    (h : tR T W R' (fun sd => f sd >>= k sd) σ H Q)
    (hq : ∀ sd S1 a b w1, Wd T w1 S1 → RS T w1 sd σ → R w1 a b → PG T (fun c d H' => W c d σ H') R' Q w1 (k sd a S1) → Q1 b w1.H) : tR T W R f σ H Q1 := by
  obtain ⟨sd, S, w, h1, h2, h3, h4⟩ := h
  exact ⟨sd, S, w, h1, h2, h3, PG.bnd (m := f sd) (k := k sd) (R' := R') h4 fun a S1 b w1 e d r p => hq sd S1 a b w1 d (h3.ext e) r p⟩
end
end Q
set_option Elab.async false
set_option linter.all false
set_option maxRecDepth 100000
set_option maxHeartbeats 4000000
namespace Q
open PySem PySem.Spec PyProof.Rows L2

/-- the context runs the table's text -/
structure Lk (T : Tb) (X : Cx) : Prop where
  K : X.K = T.K
  P : X.prog = T.P
  w : X.w = T.w
section
variable {T : Tb} {w : Wo} {S : List MO}
theorem Rep.none_ {x : V} (h : Rep T w.lam w.G .non x) : x = .non := by cases h; rfl
theorem RepB.none_ {x : V} (h : RepB T w .non x) : x = .non := by
  rcases h with h | ⟨_, _, _, e, _⟩ | ⟨_, _, _, _, _, _, _, e, _⟩
  · cases h; rfl
  · cases e
  · cases e
theorem RepB.int_ {i : Int} {x : V} (h : RepB T w (.int i) x) : x = .int i := by
  rcases h with h | ⟨_, _, _, e, _⟩ | ⟨_, _, _, _, _, _, _, e, _⟩
  · cases h; rfl
  · cases e
  · cases e
theorem RepB.bl_ {i : Bool} {x : V} (h : RepB T w (.bl i) x) : x = .bl i := by
  rcases h with h | ⟨_, _, _, e, _⟩ | ⟨_, _, _, _, _, _, _, e, _⟩
  · cases h; rfl
  · cases e
  · cases e
theorem RepB.str_ {i : Str} {x : V} (h : RepB T w (.str i) x) : x = .str i := by
  rcases h with h | ⟨_, _, _, e, _⟩ | ⟨_, _, _, _, _, _, _, e, _⟩
  · cases h; rfl
  · cases e
  · cases e
theorem RepB.lst_ {ds : List D} {x : V} (d : Wd T w S) (h : RepB T w (.lst ds) x) : ∃ a vs, x = .ref a ∧ Rd w.H a (.lst vs) ∧ RepA T w.lam w.G ds vs := by
  rcases h with h | ⟨ds', a, vs, e, e2, h3, h4, h5⟩ | ⟨_, _, _, _, _, _, _, e, _⟩
  · cases h with
    | lst h1 h2 => exact ⟨_, _, rfl, same_rd d.sub h1, h2⟩
  · cases e
    exact ⟨a, vs, e2, .inl h3, h5⟩
  · cases e
theorem RepB.tup_ {ds : List D} {x : V} (d : Wd T w S) (h : RepB T w (.tup ds) x) : ∃ a vs, x = .ref a ∧ SqT T.K w.H a vs ∧ RepA T w.lam w.G ds vs := by
  rcases h with h | ⟨ds', a, vs, e, e2, h3, h4, h5⟩ | ⟨_, _, _, _, _, _, _, e, _⟩
  · cases h with
    | tup h1 h2 => exact ⟨_, _, rfl, same_seqT d.sub h1, h2⟩
  · cases e
  · cases e
/-- a dict, lent or held for ever -/
theorem RepB.dct_ {b : Bool} {ks vs : List D} {x : V} (d : Wd T w S) (h : RepB T w (.dct b ks vs) x) : ∃ a u kv vv, x = .ref a ∧ (w.H a = some u ∨ ∃ o, w.H a = some (.frz o u)) ∧ DicSh T.P T.w a b u ks kv vv ∧ RepA T w.lam w.G ks kv ∧ RepA T w.lam w.G vs vv := by
  rcases h with h | ⟨ds', a, vs, e, e2, h3, h4, h5⟩ | ⟨_, _, _, a, u, kv, vv, e, e2, h3, h4, h5, h6, h7⟩
  · cases h with
    | dct h1 h2 h3 h4 => exact ⟨_, _, _, _, rfl, .inr ⟨_, d.sub _ _ h1⟩, h2, h3, h4⟩
  · cases e
  · cases e
    exact ⟨a, u, kv, vv, e2, .inl h3, h4, h6, h7⟩
/-- what a new thing makes of the world -/
abbrev Wo.put (w : Wo) (p : Addr) (o : HO) : Wo := ⟨w.lam, upd w.G p o, upd w.H p o⟩
theorem new_rep {p : Addr} {o : HO} {d : D} {v : V} (wd : Wd T w S) (hp : w.H p = none) (r : Rep T w.lam w.G d v) : Rep T w.lam (upd w.G p o) d v :=
  r.mono (l := []) (by simp) fun b u h => by rw [upd_ne (ne_of_none h (wd.sub.free hp))]; exact h
theorem new_repA {p : Addr} {o : HO} {d : List D} {v : List V} (wd : Wd T w S) (hp : w.H p = none) (r : RepA T w.lam w.G d v) : RepA T w.lam (upd w.G p o) d v :=
  r.mono (l := []) (by simp) fun b u h => by rw [upd_ne (ne_of_none h (wd.sub.free hp))]; exact h
theorem new_lst {p : Addr} {ds : List D} {vs : List V} (wd : Wd T w S) (hp : w.H p = none) (r : RepA T w.lam w.G ds vs) : Alc w (w.put p (.lst vs)) ∧ Rep T (w.put p (.lst vs)).lam (w.put p (.lst vs)).G (.lst ds) (.ref p) :=
  ⟨alc_one wd hp (fun _ z => by cases z), .lst (.inl upd_same) (new_repA wd hp r)⟩
theorem new_tup {p : Addr} {ds : List D} {vs : List V} (wd : Wd T w S) (hp : w.H p = none) (r : RepA T w.lam w.G ds vs) : Alc w (w.put p (.tup vs)) ∧ Rep T (w.put p (.tup vs)).lam (w.put p (.tup vs)).G (.tup ds) (.ref p) :=
  ⟨alc_one wd hp (fun _ z => by cases z), .tup (.inl (.inl upd_same)) (new_repA wd hp r)⟩
/-- an operator by values over data -/
def rD (T : Tb) (g : D → D → Option D) : R2 := fun x y H Q => ∃ w S dx dy d, w.H = H ∧ Wd T w S ∧ RepB T w dx x ∧ RepB T w dy y ∧ g dx dy = some d ∧ ∀ v w', Alc w w' → Rep T w'.lam w'.G d v → Q v w'.H
section
variable {X : Cx} {W : WX} {a b : Expr} {pos : Pos} {f g : List SV → M D}
theorem je_op {op : Operator} {h : D → D → Option D} (ho : OpR X (binaryOp op) (rD T h)) (ha : PE X a (tMB T W f)) (hb : PE X b (tMB T W g)) :
    PE X (.BinOp a op b pos) (tM T W fun sd => f sd >>= fun x => g sd >>= fun y => M.lift (h x y)) := by
  refine PE.imp (pe_op ho ha hb) fun σ H Q h => ?_
  refine tR_bnd (k := fun sd x => g sd >>= fun y => M.lift _) h fun sd S1 dx x w1 d1 s1 r1 h1 => ?_
  refine ⟨sd, S1, w1, rfl, d1, s1, PG.bnd h1 fun dy S2 y w2 e2 d2 r2 h2 => ?_⟩
  obtain ⟨d, hd, q⟩ := h2.fin d2
  exact ⟨w2, S2, dx, dy, d, rfl, d2, r1.ext e2, r2, hd, fun v w' al r => q v w' al r⟩
end
end
def addD : D → D → Option D
  | .int i, .int j => some (.int (i + j))
  | .str x, .str y => if x.length + y.length ≤ sizeLine then some (.str (x ++ y)) else none
  | .lst x, .lst y => if x.length + y.length ≤ sizeLine then some (.lst (x ++ y)) else none
  | .tup x, .tup y => if x.length + y.length ≤ sizeLine then some (.tup (x ++ y)) else none
  | _, _ => none
def subD : D → D → Option D
  | .int i, .int j => some (.int (i - j))
  | _, _ => none
def mulD : D → D → Option D
  | .int i, .int j => if (-(2 ^ 64) < i ∧ i < 2 ^ 64) ∨ (-(2 ^ 64) < j ∧ j < 2 ^ 64) then some (.int (i * j)) else none
  | .lst x, .int k => if -(2 ^ 63) ≤ k ∧ k < 2 ^ 63 ∧ x.length * k.toNat ≤ sizeLine then some (.lst (List.replicate k.toNat x).flatten) else none
  | .tup x, .int k => if x ≠ [] ∧ 2 ≤ k ∧ k ≤ 1000 ∧ x.length ≤ 1000 then some (.tup (List.replicate k.toNat x).flatten) else none
  | _, _ => none
def fdivD : D → D → Option D
  | .int i, .int j => if 0 < j ∧ j < 1073741824 then some (.int (i / j)) else none
  | _, _ => none
def modD : D → D → Option D
  | .int i, .int j => if 0 < j then some (.int (i % j)) else none
  | _, _ => none
def powD : D → D → Option D
  | .int i, .int j => if 0 ≤ j ∧ j ≤ 1000000 ∧ i.natAbs < 2 ^ 64 then some (.int (i ^ j.toNat)) else none
  | _, _ => none
section
variable {T : Tb} {X : Cx}
theorem op_catR : OpR X (binaryOp .Add) (fun x y H Q => ∃ l b xs zs, x = .ref l ∧ y = .ref b ∧ Rd H l (.lst xs) ∧ Rd H b (.lst zs) ∧ xs.length + zs.length ≤ sizeLine ∧ ∀ p, H p = none → Q (.ref p) (upd H p (.lst (xs ++ zs)))) := by
  intro pins s σ H x y v u Q I rx ry h
  obtain ⟨l, b, xs, zs, rfl, rfl, hH, hB, hz, q⟩ := h
  cases rx
  cases ry
  obtain ⟨z, its, n, r, e⟩ := hH.ok I.hok
  obtain ⟨z2, its2, n2, r2, e2⟩ := hB.ok I.hok
  have hl := r.length
  have hl2 := r2.length
  refine PySem.P.add_list e e2 ?_ (by rw [List.size_toArray, List.size_toArray]; omega)
  have ea : its.toArray ++ its2.toArray = (its ++ its2).toArray := by simp
  rw [ea]
  exact ⟨.ref _, _, I.lnew (t' := s.toks) (r.append r2) (by rw [List.length_append]; omega), rfl, q _ I.fresh⟩
theorem add_D (k : Lk T X) : OpR X (binaryOp .Add) (rD T addD) := by
  intro pins s σ H x y v u Q I rx ry h
  obtain ⟨w, S, dx, dy, d, rfl, wd, hx, hy, hd, q⟩ := h
  cases dx <;> cases dy <;> simp only [addD, reduceCtorEq, Option.some.injEq, Option.ite_none_right_eq_some] at hd
  case int.int i j =>
    subst hd
    exact op_add pins s σ _ x y v u Q I rx ry ⟨i, j, hx.int_, hy.int_, q _ _ (.refl wd) (.int _)⟩
  case str.str i j =>
    obtain ⟨hl, hd⟩ := hd
    subst hd
    exact op_add_str pins s σ _ x y v u Q I rx ry ⟨i, j, hx.str_, hy.str_, hl, q _ _ (.refl wd) (.str _)⟩
  case lst.lst i j =>
    obtain ⟨hl, hd⟩ := hd
    subst hd
    obtain ⟨a, vs, e1, h1, r1⟩ := hx.lst_ wd
    obtain ⟨b, us, e2, h2, r2⟩ := hy.lst_ wd
    refine op_catR pins s σ _ x y v u Q I rx ry ⟨a, b, vs, us, e1, e2, h1, h2, by rw [← r1.length, ← r2.length]; exact hl, fun p hp => ?_⟩
    obtain ⟨al, r⟩ := new_lst wd hp (r1.app r2)
    exact q _ _ al r
  case tup.tup i j =>
    obtain ⟨hl, hd⟩ := hd
    subst hd
    obtain ⟨a, vs, e1, h1, r1⟩ := hx.tup_ wd
    obtain ⟨b, us, e2, h2, r2⟩ := hy.tup_ wd
    refine op_catA pins s σ _ x y v u Q I rx ry ⟨a, b, vs, us, e1, e2, by rw [k.K]; exact h1, by rw [k.K]; exact h2, by rw [← r1.length, ← r2.length]; exact hl, fun z => ?_, fun _ z => ?_, fun _ _ p hp => ?_⟩
    · subst z
      cases r1
      rw [← e2]
      refine q y w (.refl wd) ?_
      rcases hy with hy | ⟨_, _, _, z, _⟩ | ⟨_, _, _, _, _, _, _, z, _⟩
      · exact hy
      · cases z
      · cases z
    · subst z
      cases r2
      rw [← e1, List.append_nil] at *
      refine q x w (.refl wd) ?_
      rcases hx with hx | ⟨_, _, _, z, _⟩ | ⟨_, _, _, _, _, _, _, z, _⟩
      · exact hx
      · cases z
      · cases z
    · obtain ⟨al, r⟩ := new_tup wd hp (r1.app r2)
      exact q _ _ al r
end
end Q
set_option Elab.async false
set_option linter.all false
set_option maxRecDepth 100000
set_option maxHeartbeats 4000000
namespace Q
open PySem PySem.Spec PyProof.Rows L2
def nkB (x y : D) : Bool := decide (nkD x = nkD y)
def dLook (ks vs : List D) (k : D) : Option D := ((ks.zip vs).find? fun p => nkB p.1 k).map (·.2)
def dPut (ks vs : List D) (k v : D) : List D × List D := if (ks.any fun y => nkB y k) = true then (ks, (ks.zip vs).map fun p => if nkB p.1 k = true then v else p.2) else (ks ++ [k], vs ++ [v])
section
variable {T : Tb} {lam : List Addr} {G : Hp}
def kI (kvs : List (Int × V)) : List (Key × V) := kvs.map fun p => (Sum.inl p.1, p.2)
def ksI (kvs : List (Int × V)) : List D := kvs.map fun p => .int p.1
theorem nkB_int (i j : Int) : nkB (.int i) (.int j) = decide (i = j) := by
  unfold nkB
  simp [nkD]
theorem lookI (i : Int) : ∀ {kvs : List (Int × V)} {vs : List D}, RepA T lam G vs (kvs.map (·.2)) → match dLook (ksI kvs) vs (.int i) with
    | some d => ∃ v, valV (kI kvs) (Sum.inl i : Key) = some v ∧ Rep T lam G d v
    | none => valV (kI kvs) (Sum.inl i : Key) = none
  | [], _, .nil => rfl
  | p :: kvs, d :: vs, .cons h r => by
    have ih := lookI i r
    unfold dLook ksI at *
    simp only [List.map_cons, List.zip_cons_cons, List.find?_cons, nkB_int]
    by_cases e : p.1 = i
    · have ev : valV (kI (p :: kvs)) (Sum.inl i : Key) = some p.2 := valV_pos (p := (Sum.inl p.1, p.2)) (by rw [e])
      simp only [e, decide_true, Option.map_some]
      exact ⟨p.2, ev, h⟩
    · have ev : valV (kI (p :: kvs)) (Sum.inl i : Key) = valV (kI kvs) (Sum.inl i) := valV_neg (p := (Sum.inl p.1, p.2)) (fun z => e (Sum.inl.inj z))
      simp only [e, decide_false]
      rw [ev]
      exact ih
def putI (kvs : List (Int × V)) (i : Int) (v : V) : List (Int × V) := if (kvs.any fun p => decide (p.1 = i)) = true then kvs.map fun p => if p.1 = i then (p.1, v) else p else kvs ++ [(i, v)]
theorem any_kI (i : Int) (kvs : List (Int × V)) : ((kI kvs).any fun kv => decide (kv.1 = (Sum.inl i : Key))) = kvs.any fun p => decide (p.1 = i) := by
  unfold kI
  rw [List.any_map]
  congr 1
  funext p
  simp
theorem any_ksI (i : Int) (kvs : List (Int × V)) : ((ksI kvs).any fun y => nkB y (.int i)) = kvs.any fun p => decide (p.1 = i) := by
  unfold ksI
  rw [List.any_map]
  congr 1
  funext p
  simp [nkB_int]
theorem kI_put (kvs : List (Int × V)) (i : Int) (v : V) : putK (kI kvs) (Sum.inl i : Key) v = kI (putI kvs i v) := by
  unfold putK putI
  rw [any_kI]
  split
  · unfold kI
    rw [List.map_map, List.map_map]
    apply List.map_congr_left
    intro p _
    simp only [Function.comp]
    by_cases e : p.1 = i
    · simp [e]
    · simp [e]
  · simp [kI]
theorem ksI_put (kvs : List (Int × V)) (vs : List D) (i : Int) (v : V) (d : D) : (dPut (ksI kvs) vs (.int i) d).1 = ksI (putI kvs i v) := by
  unfold dPut putI
  rw [any_ksI]
  split
  · show ksI kvs = _
    unfold ksI
    rw [List.map_map]
    apply List.map_congr_left
    intro p _
    simp only [Function.comp]
    split <;> rfl
  · simp [ksI]
theorem RepA.snoc {vs : List D} {us : List V} {d : D} {v : V} (r : RepA T lam G vs us) (h : Rep T lam G d v) : RepA T lam G (vs ++ [d]) (us ++ [v]) := r.app (.cons h .nil)
theorem putI_rep {kvs : List (Int × V)} {vs : List D} {i : Int} {v : V} {d : D} (r : RepA T lam G vs (kvs.map (·.2))) (h : Rep T lam G d v) : RepA T lam G (dPut (ksI kvs) vs (.int i) d).2 ((putI kvs i v).map (·.2)) := by
  unfold dPut putI
  rw [any_ksI]
  split
  · show RepA T lam G (((ksI kvs).zip vs).map fun p => if nkB p.1 (.int i) = true then d else p.2) _
    have go : ∀ {kvs : List (Int × V)} {vs : List D}, RepA T lam G vs (kvs.map (·.2)) → RepA T lam G (((ksI kvs).zip vs).map fun p => if nkB p.1 (.int i) = true then d else p.2) ((kvs.map fun p => if p.1 = i then (p.1, v) else p).map (·.2)) := by
      intro kvs
      induction kvs with
      | nil => intro vs r; cases r; exact .nil
      | cons p kvs ih =>
        intro vs r
        cases r with
        | cons h1 r1 =>
          simp only [ksI, List.map_cons, List.zip_cons_cons, nkB_int]
          refine .cons ?_ (ih r1)
          by_cases e : p.1 = i
          · simp only [e, decide_true, if_true]; exact h
          · simp only [e, decide_false, Bool.false_eq_true, if_false]; exact h1
    exact go r
  · rw [List.map_append]
    exact r.snoc h
theorem repA_ints : ∀ kvs : List (Int × V), RepA T lam G (ksI kvs) (kvs.map fun p => V.int p.1)
  | [] => .nil
  | p :: kvs => .cons (.int _) (repA_ints kvs)
abbrev XN := List (NestedKey × Addr × V)
abbrev UN := List (NestedKey × Addr × Value)
abbrev XU (xs : XN) (us : UN) : Prop := Paired (fun p q => p.1 = q.1 ∧ p.2.1 = q.2.1 ∧ RelV p.2.2 q.2.2) xs us
theorem nk_some {k : D} {n : NestedKey} (h : nkD k = some n) (y : D) : nkB y k = decide (nkD y = some n) := by unfold nkB; rw [h]
theorem lookN {kd : D} {n : NestedKey} (hk : nkD kd = some n) : ∀ {xs : XN} {us : UN} {ks vs : List D}, XU xs us → ks.map nkD = (xs.map fun x => some x.1) → RepA T lam G vs (xs.map fun x => x.2.2) → match dLook ks vs kd with
    | some d => ∃ p v, atKey us n = some p ∧ RelV v p.2 ∧ Rep T lam G d v
    | none => atKey us n = none
  | [], _, [], _, .nil, _, .nil => rfl
  | [], _, _ :: _, _, .nil, h, _ => by simp at h
  | x :: xs, _, [], _, .cons _ _, h, _ => by simp at h
  | x :: xs, u :: us, k :: ks, d :: vs, .cons h1 t, hm, .cons h r => by
    simp only [List.map_cons, List.cons.injEq] at hm
    have ih := lookN hk t hm.2 r
    unfold dLook at *
    simp only [List.zip_cons_cons, List.find?_cons, nk_some hk] at *
    obtain ⟨e1, e2, e3⟩ := h1
    rw [hm.1]
    by_cases e : x.1 = n
    · have ea : atKey (u :: us) n = some u.2 := by simp [atKey, List.find?_cons, ← e1, e]
      simp only [e, decide_true, Option.map_some]
      exact ⟨u.2, x.2.2, ea, e3, h⟩
    · have ea : atKey (u :: us) n = atKey us n := by simp [atKey, List.find?_cons, ← e1, e]
      have ne : ¬ some x.1 = some n := fun z => e (Option.some.inj z)
      simp only [ne, decide_false]
      rw [ea]
      exact ih
def putX (xs : XN) (n : NestedKey) (b : Addr) (v : V) : XN := if (xs.any fun x => decide (x.1 = n)) = true then xs.map fun x => if x.1 = n then (x.1, x.2.1, v) else x else xs ++ [(n, b, v)]
theorem any_xu (n : NestedKey) : ∀ {xs : XN} {us : UN}, XU xs us → (xs.any fun x => decide (x.1 = n)) = (atKey us n).isSome
  | [], _, .nil => rfl
  | x :: xs, u :: us, .cons h t => by
    have ih := any_xu n t
    obtain ⟨e1, _, _⟩ := h
    rw [List.any_cons]
    by_cases e : x.1 = n
    · have ea : atKey (u :: us) n = some u.2 := by simp [atKey, List.find?_cons, ← e1, e]
      rw [ea]; simp [e]
    · have ea : atKey (u :: us) n = atKey us n := by simp [atKey, List.find?_cons, ← e1, e]
      rw [ea, ← ih]; simp [e]
theorem putX_xu {n : NestedKey} {b : Addr} {v : V} {u : Value} (ru : RelV v u) {xs : XN} {us : UN} (h : XU xs us) : XU (putX xs n b v) (storedH us n b u) := by
  unfold putX storedH
  rw [any_xu n h]
  split
  · have go : ∀ {xs : XN} {us : UN}, XU xs us → XU (xs.map fun x => if x.1 = n then (x.1, x.2.1, v) else x) (us.map (putAt n u)) := by
      intro xs us h
      induction h with
      | nil => exact .nil
      | @cons x y xs ys h t ih =>
        refine .cons ?_ ih
        obtain ⟨e1, e2, e3⟩ := h
        unfold putAt
        dsimp only
        by_cases e : x.1 = n
        · rw [if_pos e, if_pos (e1.symm.trans e)]; exact ⟨e1, e2, ru⟩
        · rw [if_neg e, if_neg (fun z => e (e1.trans z))]; exact ⟨e1, e2, e3⟩
    exact go h
  · exact Paired.snoc h ⟨rfl, rfl, ru⟩
theorem any_xn {kd : D} {n : NestedKey} (hk : nkD kd = some n) {xs : XN} {ks : List D} (hm : ks.map nkD = xs.map fun x => some x.1) : (ks.any fun y => nkB y kd) = xs.any fun x => decide (x.1 = n) := by
  have e1 : (ks.any fun y => nkB y kd) = (ks.map nkD).any fun o => decide (o = some n) := by
    rw [List.any_map]
    congr 1
    funext y
    exact nk_some hk y
  rw [e1, hm, List.any_map]
  congr 1
  funext x
  simp
theorem putX_keys {kd : D} {n : NestedKey} (hk : nkD kd = some n) {b : Addr} {v : V} {dv : D} {xs : XN} {ks vs : List D} (hm : ks.map nkD = xs.map fun x => some x.1) : (dPut ks vs kd dv).1.map nkD = (putX xs n b v).map fun x => some x.1 := by
  unfold dPut putX
  rw [any_xn hk hm]
  split
  · show ks.map nkD = _
    rw [hm, List.map_map]
    apply List.map_congr_left
    intro x _
    simp only [Function.comp]
    split <;> rfl
  · simp [hm, hk]
theorem putX_rep {kd : D} {n : NestedKey} (hk : nkD kd = some n) {b : Addr} {v : V} {dv : D} {xs : XN} {ks vs : List D} (hm : ks.map nkD = xs.map fun x => some x.1) (r : RepA T lam G vs (xs.map fun x => x.2.2)) (h : Rep T lam G dv v) :
    RepA T lam G (dPut ks vs kd dv).2 ((putX xs n b v).map fun x => x.2.2) := by
  unfold dPut putX
  rw [any_xn hk hm]
  split
  · show RepA T lam G ((ks.zip vs).map fun p => if nkB p.1 kd = true then dv else p.2) _
    have go : ∀ {xs : XN} {ks vs : List D}, ks.map nkD = (xs.map fun x => some x.1) → RepA T lam G vs (xs.map fun x => x.2.2) → RepA T lam G ((ks.zip vs).map fun p => if nkB p.1 kd = true then dv else p.2) ((xs.map fun x => if x.1 = n then (x.1, x.2.1, v) else x).map fun x => x.2.2) := by
      intro xs
      induction xs with
      | nil =>
        intro ks vs hm r
        cases r
        rw [List.zip_nil_right]
        exact .nil
      | cons x xs ih =>
        intro ks vs hm r
        cases ks with
        | nil => simp at hm
        | cons k ks =>
          simp only [List.map_cons, List.cons.injEq] at hm
          cases r with
          | cons h1 r1 =>
            simp only [List.zip_cons_cons, List.map_cons, nk_some hk, hm.1]
            refine .cons ?_ ?_
            · by_cases e : x.1 = n
              · simp only [e, decide_true, if_true]; exact h
              · have ne : ¬ some x.1 = some n := fun z => e (Option.some.inj z)
                simp only [ne, e, decide_false, Bool.false_eq_true, if_false]; exact h1
            · have q := ih hm.2 r1
              simp only [nk_some hk] at q
              exact q
    exact go hm r
  · rw [List.map_append]
    exact r.snoc h
theorem putX_kv {kd : D} {n : NestedKey} (hk : nkD kd = some n) {b : Addr} {v : V} {dv : D} {xs : XN} {ks vs : List D} (hm : ks.map nkD = xs.map fun x => some x.1) (r : RepA T lam G ks (xs.map fun x => V.ref x.2.1)) (h : Rep T lam G kd (.ref b)) :
    RepA T lam G (dPut ks vs kd dv).1 ((putX xs n b v).map fun x => V.ref x.2.1) := by
  unfold dPut putX
  rw [any_xn hk hm]
  split
  · show RepA T lam G ks _
    have e : ((xs.map fun x => if x.1 = n then (x.1, x.2.1, v) else x).map fun x => V.ref x.2.1) = xs.map fun x => V.ref x.2.1 := by
      rw [List.map_map]
      apply List.map_congr_left
      intro x _
      simp only [Function.comp]
      split <;> rfl
    rw [e]; exact r
  · rw [List.map_append]
    exact r.snoc h
theorem dPut_len {ks vs : List D} {k v : D} : (dPut ks vs k v).1.length ≤ ks.length + 1 := by
  unfold dPut
  split
  · exact Nat.le_succ _
  · simp
theorem dPut_key {b : Bool} {ks vs : List D} {k v : D} (h : ∀ x ∈ ks, keyOk b x = true) (hk : keyOk b k = true) : ∀ x ∈ (dPut ks vs k v).1, keyOk b x = true := by
  unfold dPut
  split
  · exact h
  · intro x hx
    rcases List.mem_append.mp hx with q | q
    · exact h x q
    · rw [List.mem_singleton.mp q]; exact hk
end
section
variable {X : Cx} {T : Tb} {pins : List (Addr × Obj)} {σ : L2.St} {s : Shared} {w : Wo} {lam : List Addr} {G : Hp}
mutual
theorem rep_nk (hK : X.K = T.K) (I : Inv X pins σ w.H s) (hs : Same G w.H) : ∀ (d : D) {v : V} {u : Value} {n : NestedKey}, nkD d = some n → Rep T lam G d v → RelV v u → NestedIs s.heap n u
  | .int i, _, _, _, h, q, r => by
    cases q
    simp only [nkD, Option.some.injEq] at h
    subst h
    obtain ⟨t, rfl⟩ := r
    exact .int i t
  | .non, _, _, _, h, q, r => by
    cases q
    simp only [nkD, Option.some.injEq] at h
    subst h
    cases (show _ = Value.none from r)
    exact .none
  | .tup ds, _, _, _, h, q, r => by
    simp only [nkD, Option.map_eq_some_iff] at h
    obtain ⟨ks, h1, rfl⟩ := h
    cases q with
    | tup q1 rr =>
      cases (show _ = Value.ref _ from r)
      obtain ⟨its, rv, ⟨o, ho, hc, m, hd⟩, _⟩ := I.tuple (show SqT X.K w.H _ _ by rw [hK]; exact same_seqT hs q1)
      exact .tup ho hc hd (by simpa using repA_nk hK I hs ds h1 rr rv)
  | .bl _, _, _, _, h, _, _ => by simp [nkD] at h
  | .str _, _, _, _, h, _, _ => by simp [nkD] at h
  | .lst _, _, _, _, h, _, _ => by simp [nkD] at h
  | .dct _ _ _, _, _, _, h, _, _ => by simp [nkD] at h
  | .fn _, _, _, _, h, _, _ => by simp [nkD] at h
  | .loc _, _, _, _, h, _, _ => by simp [nkD] at h
theorem repA_nk (hK : X.K = T.K) (I : Inv X pins σ w.H s) (hs : Same G w.H) : ∀ (ds : List D) {vs : List V} {us : List Value} {ns : List NestedKey}, nkA ds = some ns → RepA T lam G ds vs → Vals vs us → NestedAll s.heap ns us
  | [], _, _, _, h, q, r => by
    cases q
    cases r
    simp only [nkA, Option.some.injEq] at h
    subst h
    exact .nil
  | d :: ds, _, _, _, h, q, r => by
    simp only [nkA] at h
    cases q with
    | cons q q' =>
      cases r with
      | cons h1 h2 =>
        cases e1 : nkD d with
        | none => rw [e1] at h; simp at h
        | some k =>
          cases e2 : nkA ds with
          | none => rw [e1, e2] at h; simp at h
          | some ks =>
            rw [e1, e2] at h
            simp only [Option.some.injEq] at h
            subst h
            exact .cons (rep_nk hK I hs d e1 q h1) (repA_nk hK I hs ds e2 q' h2)
end
end
end Q
set_option Elab.async false
set_option linter.all false
set_option maxRecDepth 100000
set_option maxHeartbeats 4000000
namespace Q
open PySem PySem.Spec PyProof.Rows L2
/-- a dict that may be read -/
def DicRd (T : Tb) (w : Wo) (b : Bool) (ks vs : List D) (a : Addr) : Prop := ∃ u kv vv, Rd w.H a u ∧ DicSh T.P T.w a b u ks kv vv ∧ RepA T w.lam w.G ks kv ∧ RepA T w.lam w.G vs vv
section
variable {X : Cx} {T : Tb} {pins : List (Addr × Obj)} {σ : L2.St} {s : Shared} {w : Wo} {S : List MO} {a : Addr} {b : Bool} {ks vs : List D} {kd : D} {y : V} {u : Value} {A : Around} {E : Value → Shared → Prop}
theorem dicRd_of (d : Wd T w S) {x : V} (h : RepB T w (.dct b ks vs) x) : ∃ a, x = .ref a ∧ DicRd T w b ks vs a := by
  obtain ⟨a, u, kv, vv, e, h1, h2, h3, h4⟩ := h.dct_ d
  exact ⟨a, e, u, kv, vv, h1, h2, h3, h4⟩
theorem keyRep (hk : keyOk b kd = true) (h : RepB T w kd y) : Rep T w.lam w.G kd y := by
  rcases h with h | ⟨_, _, _, z, _⟩ | ⟨_, _, _, _, _, _, _, z, _⟩
  · exact h
  · subst z; cases b <;> simp [keyOk] at hk
  · subst z; cases b <;> simp [keyOk] at hk
theorem keyInt (hk : keyOk false kd = true) : ∃ i, kd = .int i := by
  cases kd <;> simp [keyOk] at hk
  exact ⟨_, rfl⟩
theorem keyTup (hk : keyOk true kd = true) : ∃ n, nkD kd = some n ∧ n.depth ≤ 8 ∧ ∃ ds, kd = .tup ds := by
  cases kd <;> simp only [keyOk, Bool.false_eq_true] at hk
  rename_i ds
  cases e : nkA ds with
  | none => rw [e] at hk; simp at hk
  | some ns =>
    rw [e] at hk
    exact ⟨.tup ns, by simp [nkD, e], of_decide_eq_true hk, ds, rfl⟩
/-- the key in the heap -/
theorem key_is (k : Lk T X) (d : Wd T w S) (I : Inv X pins σ w.H s) (hk : keyOk true kd = true) (h : Rep T w.lam w.G kd y) (ry : RelV y u) : ∃ n c, nkD kd = some n ∧ y = .ref c ∧ u = .ref c ∧ (nestedKind X.prog X.w).is s.heap n c := by
  obtain ⟨n, e, hd, ds, rfl⟩ := keyTup hk
  cases h with
  | tup q1 rr =>
    rename_i c vs
    cases (show u = Value.ref c from ry)
    exact ⟨n, c, e, rfl, rfl, rep_nk k.K I d.sub _ e (.tup q1 rr) rfl, hd⟩
theorem dicn_of (k : Lk T X) (d : Wd T w S) (I : Inv X pins σ w.H s) {xs : XN} (h : Rd w.H a (DicN T.P T.w a xs)) (hm : ks.map nkD = xs.map fun x => some x.1) (hk : ∀ x ∈ ks, keyOk true x = true) (r : RepA T w.lam w.G ks (xs.map fun x => V.ref x.2.1)) :
    xs.length ≤ sizeLine ∧ (a == sysModules) = false ∧ ∃ us, XU xs us ∧ s.heap.DictOfH (nestedKind X.prog X.w) a us := by
  have ob := (rd_of I.hok h : ObjOk X.prog X.w w.H s.heap a (DicN T.P T.w a xs))
  obtain ⟨z, hd, us, xu, nd, o, es, ep, h1, h2, h3, h4⟩ := ob.1
  refine ⟨z, hd, us, xu, o, es, ep, h1, h2, h3, by rw [k.P, k.w]; exact h4, ?_, nd⟩
  have go : ∀ {xs : XN} {us : UN} {ks : List D}, XU xs us → ks.map nkD = (xs.map fun x => some x.1) → (∀ x ∈ ks, keyOk true x = true) → RepA T w.lam w.G ks (xs.map fun x => V.ref x.2.1) → ∀ x ∈ us, (nestedKind X.prog X.w).is s.heap x.1 x.2.1 := by
    intro xs us ks h
    induction h generalizing ks with
    | nil => intro _ _ _ x hx; cases hx
    | @cons p q ps qs h t ih =>
      intro hm hk r x hx
      cases ks with
      | nil => simp at hm
      | cons kd ks =>
        simp only [List.map_cons, List.cons.injEq] at hm
        cases r with
        | cons r1 r2 =>
          rcases List.mem_cons.mp hx with e | hx
          · subst e
            obtain ⟨n, c, e1, e2, e3, e4⟩ := key_is (u := .ref p.2.1) k d I (hk kd (List.mem_cons_self ..)) r1 rfl
            rw [hm.1] at e1
            cases e1
            cases e2
            rw [← h.1, ← h.2.1]
            exact e4
          · exact ih hm.2 (fun z hz => hk z (List.mem_cons_of_mem _ hz)) r2 x hx
  exact go xu hm hk r
theorem room8 (hu : A.units + 9 < cLine) : (nestedKind X.prog X.w).room A.in1 := by show A.units + 1 + 8 < cLine; omega
theorem dic_in (k : Lk T X) (hu : A.units + 9 < cLine) (d : Wd T w S) (I : Inv X pins σ w.H s) (g : DicRd T w b ks vs a) (hk : keyOk b kd = true) (rk : RepB T w kd y) (ry : RelV y u) {Q : Value → Shared → Prop} (h : ∀ s', Inv X pins σ w.H s' → Q (.bool (dLook ks vs kd).isSome) s') :
    wpAny (model X.prog X.w) A (compareOp .In u (.ref a)) Q E s := by
  obtain ⟨o, kv, vv, h1, h2, h3, h4⟩ := g
  have rk := keyRep hk rk
  cases h2 with
  | int kvs =>
    obtain ⟨i, rfl⟩ := keyInt hk
    cases rk
    have q := lookI i h4
    refine d_in (by omega) I (.inl ⟨_, Sum.inl i, h1, rfl, rfl⟩) ry fun s' I' => ?_
    have e : (valV (kI kvs) (Sum.inl i : Key)).isSome = (dLook (ksI kvs) vs (.int i)).isSome := by
      cases e : dLook (ksI kvs) vs (.int i) with
      | none => rw [e] at q; rw [q]; rfl
      | some dd => rw [e] at q; obtain ⟨v, q, _⟩ := q; rw [q]; rfl
    show Q (.bool (valV (kI kvs) (Sum.inl i : Key)).isSome) s'
    rw [e]
    exact h s' I'
  | tup xs ks hm hks =>
    obtain ⟨z, hd, us, xu, dd⟩ := dicn_of k d I h1 hm hks h3
    obtain ⟨n, c, e1, e2, rfl, e4⟩ := key_is k d I hk rk ry
    have q := lookN e1 xu hm h4
    refine wpAny_in_heap (room8 hu) e4 hd dd ?_
    have e : (atKey us n).isSome = (dLook ks vs kd).isSome := by
      cases e : dLook ks vs kd with
      | none => rw [e] at q; rw [q]; rfl
      | some dd => rw [e] at q; obtain ⟨p, v, q, _⟩ := q; rw [q]; rfl
    rw [e]
    exact h _ (I.tok _)
theorem dic_notin (k : Lk T X) (hu : A.units + 9 < cLine) (d : Wd T w S) (I : Inv X pins σ w.H s) (g : DicRd T w b ks vs a) (hk : keyOk b kd = true) (rk : RepB T w kd y) (ry : RelV y u) {Q : Value → Shared → Prop} (h : ∀ s', Inv X pins σ w.H s' → Q (.bool (!(dLook ks vs kd).isSome)) s') :
    wpAny (model X.prog X.w) A (compareOp .NotIn u (.ref a)) Q E s := by
  obtain ⟨o, kv, vv, h1, h2, h3, h4⟩ := g
  have rk := keyRep hk rk
  cases h2 with
  | int kvs =>
    obtain ⟨i, rfl⟩ := keyInt hk
    cases rk
    have q := lookI i h4
    refine d_notIn (by omega) I (.inl ⟨_, Sum.inl i, h1, rfl, rfl⟩) ry fun s' I' => ?_
    have e : (valV (kI kvs) (Sum.inl i : Key)).isSome = (dLook (ksI kvs) vs (.int i)).isSome := by
      cases e : dLook (ksI kvs) vs (.int i) with
      | none => rw [e] at q; rw [q]; rfl
      | some dd => rw [e] at q; obtain ⟨v, q, _⟩ := q; rw [q]; rfl
    show Q (.bool (!(valV (kI kvs) (Sum.inl i : Key)).isSome)) s'
    rw [e]
    exact h s' I'
  | tup xs ks hm hks =>
    obtain ⟨z, hd, us, xu, dd⟩ := dicn_of k d I h1 hm hks h3
    obtain ⟨n, c, e1, e2, rfl, e4⟩ := key_is k d I hk rk ry
    have q := lookN e1 xu hm h4
    refine wpAny_notIn_heap (room8 hu) e4 hd dd ?_
    have e : (atKey us n).isSome = (dLook ks vs kd).isSome := by
      cases e : dLook ks vs kd with
      | none => rw [e] at q; rw [q]; rfl
      | some dd => rw [e] at q; obtain ⟨p, v, q, _⟩ := q; rw [q]; rfl
    rw [e]
    exact h _ (I.tok _)
theorem dic_get (k : Lk T X) (hu : A.units + 9 < cLine) (d : Wd T w S) (I : Inv X pins σ w.H s) (g : DicRd T w b ks vs a) (hk : keyOk b kd = true) (rk : RepB T w kd y) (ry : RelV y u) {dv : D} (hl : dLook ks vs kd = some dv) {Q : Value → Shared → Prop} (h : ∀ v r s', Inv X pins σ w.H s' → Rep T w.lam w.G dv v → RelV v r → Q r s') :
    wpAny (model X.prog X.w) A (getItem (.ref a) u) Q E s := by
  obtain ⟨o, kv, vv, h1, h2, h3, h4⟩ := g
  have rk := keyRep hk rk
  cases h2 with
  | int kvs =>
    obtain ⟨i, rfl⟩ := keyInt hk
    cases rk
    have q := lookI i h4
    rw [show dLook (ksI kvs) vs (.int i) = some dv from hl] at q
    obtain ⟨v, q, hv⟩ := q
    exact d_getItem (v := v) (by omega) I (.inl ⟨_, Sum.inl i, h1, rfl, q.symm⟩) ry fun r s' I' rv => h v r s' I' hv rv
  | tup xs ks hm hks =>
    obtain ⟨z, hd, us, xu, dd⟩ := dicn_of k d I h1 hm hks h3
    obtain ⟨n, c, e1, e2, rfl, e4⟩ := key_is k d I hk rk ry
    have q := lookN e1 xu hm h4
    rw [hl] at q
    obtain ⟨p, v, q, rv, hv⟩ := q
    exact wpAny_getItem_heap (room8 hu) e4 dd q (h v _ _ (I.tok _) hv rv)
theorem dic_getOr (k : Lk T X) (hu : A.units + 9 < cLine) (d : Wd T w S) (I : Inv X pins σ w.H s) (g : DicRd T w b ks vs a) (hk : keyOk b kd = true) (rk : RepB T w kd y) (ry : RelV y u) {x : D} {z : V} {xr : Value} (rx : Rep T w.lam w.G x z) (rz : RelV z xr) {Q : Value → Shared → Prop} (h : ∀ v r s', Inv X pins σ w.H s' → Rep T w.lam w.G ((dLook ks vs kd).getD x) v → RelV v r → Q r s') :
    wpAny (model X.prog X.w) A (call (.builtin "dict.get") [.ref a, u, xr]) Q E s := by
  obtain ⟨o, kv, vv, h1, h2, h3, h4⟩ := g
  have rk := keyRep hk rk
  cases h2 with
  | int kvs =>
    obtain ⟨i, rfl⟩ := keyInt hk
    cases rk
    have q := lookI i h4
    refine d_get2 (o := valV (kI kvs) (Sum.inl i : Key)) (d := z) (by omega) I (.inl ⟨_, Sum.inl i, h1, rfl, rfl⟩) ry rz fun r s' I' rv => ?_
    cases e : dLook (ksI kvs) vs (.int i) with
    | none =>
      rw [e] at q
      rw [q] at rv
      exact h z r s' I' (by rw [show dLook (kvs.map fun p => D.int p.1) vs (.int i) = none from e]; exact rx) rv
    | some dd =>
      rw [e] at q
      obtain ⟨v, q, hv⟩ := q
      rw [q] at rv
      exact h v r s' I' (by rw [show dLook (kvs.map fun p => D.int p.1) vs (.int i) = some dd from e]; exact hv) rv
  | tup xs ks hm hks =>
    obtain ⟨zz, hd, us, xu, dd⟩ := dicn_of k d I h1 hm hks h3
    obtain ⟨n, c, e1, e2, rfl, e4⟩ := key_is k d I hk rk ry
    have q := lookN e1 xu hm h4
    refine getOr_keyed (room8 hu) e4 hd ⟨us, dd, rfl⟩ ?_
    rw [valueAt_pairsH]
    cases e : dLook ks vs kd with
    | none =>
      rw [e] at q
      rw [q]
      exact h z _ _ (I.tok _) (by rw [e]; exact rx) rz
    | some dd =>
      rw [e] at q
      obtain ⟨p, v, q, rv, hv⟩ := q
      rw [q]
      exact h v _ _ (I.tok _) (by rw [e]; exact hv) rv
theorem dic_type (k : Lk T X) (d : Wd T w S) (I : Inv X pins σ w.H s) (g : DicRd T w b ks vs a) : s.TypeIs (.ref a) "dict" ∧ ∀ c, Value.ref a = .ref c → ∃ ob, s.heap.get? c = some ob ∧ ob.dict = none := by
  obtain ⟨o, kv, vv, h1, h2, h3, h4⟩ := g
  cases h2 with
  | int kvs =>
    obtain ⟨z, hd, us, rel, dd⟩ := dk_rd I.hok h1
    exact ⟨dd.typeIs, dd.mapOf.noDict⟩
  | tup xs ks hm hks =>
    obtain ⟨z, hd, us, xu, dd⟩ := dicn_of k d I h1 hm hks h3
    refine ⟨dd.typeIs, fun c e => ?_⟩
    cases e
    obtain ⟨ob, _, _, ho, hx, _⟩ := dd
    exact ⟨ob, ho, hx.2.1⟩
theorem dic_len (k : Lk T X) (d : Wd T w S) (I : Inv X pins σ w.H s) (g : DicRd T w b ks vs a) {Q : Value → Shared → Prop} (h : ∀ t s', Inv X pins σ w.H s' → Q (.int ks.length t) s') :
    wpAny (model X.prog X.w) A (call (.builtin "len") [.ref a]) Q E s := by
  obtain ⟨o, kv, vv, h1, h2, h3, h4⟩ := g
  cases h2 with
  | int kvs =>
    refine d_len I h1 fun t s' I' => ?_
    have := h t s' I'
    simpa using this
  | tup xs ks hm hks =>
    obtain ⟨z, hd, us, xu, dd⟩ := dicn_of k d I h1 hm hks h3
    have l1 : xs.length = us.length := Paired.length xu
    have l2 : ks.length = xs.length := by
      have := congrArg List.length hm
      simpa using this
    have l3 : (pairsH us).length = ks.length := by rw [pairsH_length]; omega
    rw [sizeLine_eq] at z
    refine PyProof.Rows.call_len_slot (n := (pairsH us).length) dd.typeIs F.slot_dict_len (fun Q' hq => len_keyed hd ⟨us, dd, rfl⟩ hq) (by omega) (by omega) ?_
    rw [l3]
    exact h _ _ (I.tok _)
end
end Q
set_option Elab.async false
set_option linter.all false
set_option maxRecDepth 100000
set_option maxHeartbeats 4000000
namespace Q
open PySem PySem.Spec PyProof.Rows L2
theorem dicN_ok {P : Program} {w : World} {H : Hp} {h : Heap} {a : Addr} {xs : XN} {us : UN} (z : xs.length ≤ sizeLine) (hd : (a == sysModules) = false) (xu : XU xs us) (dd : h.DictOfH (nestedKind P w) a us) : ObjOk P w H h a (DicN P w a xs) := by
  obtain ⟨o, es, ep, h1, h2, h3, h4, _, h5⟩ := dd
  exact ⟨⟨z, hd, us, xu, h5, o, es, ep, h1, h2, h3, h4⟩, ⟨o, h1⟩, fun g1 g2 ⟨z', hd', us', xu', nd', o', es', ep', e1, e2, e3, e4⟩ keep => ⟨z', hd', us', xu', nd', o', es', ep', keep _ e1, e2, e3, e4⟩⟩
section
variable {X : Cx} {T : Tb} {pins : List (Addr × Obj)} {σ : L2.St} {s : Shared} {w : Wo} {S : List MO} {a : Addr} {b : Bool} {ks vs : List D} {kd dv : D} {y v : V} {u r : Value} {A : Around} {E : Value → Shared → Prop}
/-- what stands at a is what a slot's dict says -/
structure DicAt (T : Tb) (w : Wo) (b : Bool) (ks vs : List D) (a : Addr) (o : HO) : Prop where
  ex : ∃ kv vv, DicSh T.P T.w a b o ks kv vv ∧ RepA T w.lam w.G ks kv ∧ RepA T w.lam w.G vs vv
theorem dic_put (k : Lk T X) (hu : A.units + 9 < cLine) (d : Wd T w S) (I : Inv X pins σ w.H s) {o : HO} (ho : w.H a = some o) (g : DicAt T w b ks vs a o) (hk : keyOk b kd = true) (rk : RepB T w kd y) (ry : RelV y u) (rv : Rep T w.lam w.G dv v) (rr : RelV v r) (hl : ks.length < sizeLine) {Q : Unit → Shared → Prop}
    (h : ∀ o' s', Inv X pins σ (upd w.H a o') s' → DicAt T w b (dPut ks vs kd dv).1 (dPut ks vs kd dv).2 a o' → Q () s') :
    wpAny (model X.prog X.w) A (setItem (.ref a) u r) Q E s := by
  obtain ⟨kv, vv, h2, h3, h4⟩ := g.ex
  have rk := keyRep hk rk
  cases h2 with
  | int kvs =>
    obtain ⟨i, rfl⟩ := keyInt hk
    cases rk
    have len : (kI kvs).length < sizeLine := by
      simp only [List.length_map] at hl
      simpa [kI] using hl
    refine d_setItem (v := v) (by omega) I (.inl ⟨kI kvs, Sum.inl i, ho, rfl, len, rfl⟩) ry rr fun s' I' => ?_
    rw [kI_put] at I'
    have e' : (dPut (kvs.map fun p => D.int p.1) vs (.int i) dv).1 = (putI kvs i v).map fun p => D.int p.1 := ksI_put kvs vs i v dv
    refine h _ s' I' ⟨(putI kvs i v).map (fun p : Int × V => V.int p.1), (putI kvs i v).map (fun p : Int × V => p.2), ?_, ?_, ?_⟩
    · rw [e']
      exact .int (putI kvs i v)
    · rw [e']
      exact repA_ints (putI kvs i v)
    · exact putI_rep h4 rv
  | tup xs ks hm hks =>
    obtain ⟨z, hd, us, xu, dd⟩ := dicn_of k d I (.inl ho) hm hks h3
    obtain ⟨n, c, e1, e2, rfl, e4⟩ := key_is k d I hk rk ry
    have lx : xs.length = us.length := Paired.length xu
    refine wpAny_setItem_heap (hsz := by rw [← lx]; exact z) (room8 hu) e4 dd fun h' dd' hs => ?_
    obtain ⟨q, es, ep, hq, _⟩ := id dd'
    have lk : ks.length = xs.length := by
      have := congrArg List.length hm
      simpa using this
    have len : (putX xs n c v).length ≤ sizeLine := by
      unfold putX
      split
      · rw [List.length_map]; exact z
      · rw [List.length_append, List.length_cons, List.length_nil]; omega
    have new : ObjOk X.prog X.w (upd w.H a (DicN X.prog X.w a (putX xs n c v))) h' a (DicN X.prog X.w a (putX xs n c v)) := dicN_ok len hd (putX_xu rr xu) dd'
    have I' := d_write (ob := DicN X.prog X.w a (putX xs n c v)) (t' := s.toks + (nestedKind X.prog X.w).draws n) I (by rw [ho]; exact True.intro) hs ⟨q, hq⟩ new
    refine h _ _ I' ⟨(putX xs n c v).map (fun x : NestedKey × Addr × V => V.ref x.2.1), (putX xs n c v).map (fun x : NestedKey × Addr × V => x.2.2), ?_, putX_kv e1 hm h3 (by rw [← e2]; exact rk), putX_rep e1 hm h4 rv⟩
    rw [k.P, k.w]
    exact .tup (putX xs n c v) _ (putX_keys e1 hm) (dPut_key hks hk)
/-- {} -/
theorem pe_dnewN {pos : Pos} : PE X (.Dict [] [] pos) (fun _ H Q => ∀ p, H p = none → Q (.ref p) (upd H p (DicN X.prog X.w p []))) := ⟨fun pins s σ H Q I h => by
  have hb : (s.heap.objs.size == sysModules) = false := beq_eq_false_iff_ne.mpr (Ne.symm (Nat.ne_of_lt I.big))
  refine wpAny_Dict_empty ⟨.ref s.heap.objs.size, _, I.laid (a := s.heap.objs.size) (o := DicN X.prog X.w s.heap.objs.size []) (t' := s.toks) (fun _ _ q => Heap.get?_push_of_some _ q) (Nat.le_refl _) (dicN_ok (us := []) (Nat.zero_le _) hb .nil (Heap.DictOfH.new s.heap)), rfl, h _ (I.hok.fresh (Nat.le_refl _))⟩⟩
theorem dicAt_new (b : Bool) (k : Lk T X) (p : Addr) : ∃ o, (b = false → o = .dK []) ∧ (b = true → o = DicN X.prog X.w p []) ∧ DicAt T w b [] [] p o := by
  cases b with
  | false => exact ⟨.dK [], fun _ => rfl, (fun z => by cases z), [], [], .int [], .nil, .nil⟩
  | true => exact ⟨DicN X.prog X.w p [], (fun z => by cases z), fun _ => rfl, [], [], by rw [k.P, k.w]; exact .tup [] [] rfl (fun _ z => by cases z), .nil, .nil⟩
theorem xd_new (b : Bool) (k : Lk T X) {pos : Pos} : PE X (.Dict [] [] pos) (fun _ H Q => ∀ p o, H p = none → (∀ w : Wo, DicAt T w b [] [] p o) → (∀ ps, o ≠ .tbl ps) → Q (.ref p) (upd H p o)) := by
  cases b with
  | false => exact PE.imp pe_dnewK fun σ H Q h p hp => h p _ hp (fun w => ⟨[], [], .int [], .nil, .nil⟩) (fun ps z => by cases z)
  | true => exact PE.imp pe_dnewN fun σ H Q h p hp => h p _ hp (fun w => ⟨[], [], by rw [k.P, k.w]; exact .tup [] [] rfl (fun _ z => by cases z), .nil, .nil⟩) (fun ps z => by cases z)
theorem frz_dicn (k : Lk T X) (I : Inv X pins σ w.H s) {o : Obj} {xs : XN} (h : w.H a = some (.frz o (DicN T.P T.w a xs))) :
    (a == sysModules) = false ∧ s.heap.get? a = some o ∧ o.ExactDict ∧ ∃ (es : Array DictEntry) (ep : Nat), o.data = .dict es ep ∧ es.size = xs.length ∧
      ∀ (i : Nat) (x : NestedKey × Addr × V), xs[i]? = some x → ∃ en : DictEntry, es[i]? = some en ∧ en.key = .ref x.2.1 ∧ RelV x.2.2 en.val := by
  obtain ⟨hd, ⟨z, nb, us, xu, nd, o', es, ep, ho, hx, hdt, he⟩, _⟩ := I.hok a _ h
  have eo : o = o' := Option.some.inj (hd.symm.trans ho)
  subst eo
  have l1 : es.size = us.length := size_of_entries he
  have l2 : xs.length = us.length := Paired.length xu
  refine ⟨nb, hd, hx, es, ep, hdt, by omega, fun i x hix => ?_⟩
  obtain ⟨q, hq, e1, e2, e3⟩ := paired_get xu hix
  have en := entry_at he i
  rw [hq] at en
  exact ⟨_, en, by rw [e2]; rfl, e3⟩
/-- what a frozen dict's object holds -/
structure Seen (es : Array DictEntry) (kv vv : List V) : Prop where
  size : es.size = kv.length
  same : vv.length = kv.length
  at_ : ∀ (i : Nat) (x z : V), kv[i]? = some x → vv[i]? = some z → ∃ en, es[i]? = some en ∧ RelV x en.key ∧ RelV z en.val
theorem frz_seen (k : Lk T X) (I : Inv X pins σ w.H s) {o : Obj} {u : HO} {kv vv : List V} (h : w.H a = some (.frz o u)) (g : DicSh T.P T.w a b u ks kv vv) :
    (a == sysModules) = false ∧ s.heap.get? a = some o ∧ o.ExactDict ∧ ∃ (es : Array DictEntry) (ep : Nat), o.data = .dict es ep ∧ Seen es kv vv := by
  cases g with
  | int kvs =>
    obtain ⟨nb, hd, hx, es, ep, us, hdt, hsz, rel, at0⟩ := I.frzK h
    refine ⟨nb, hd, hx, es, ep, hdt, by simpa [kI] using hsz, by simp, fun i x z h1 h2 => ?_⟩
    rw [List.getElem?_map] at h1 h2
    cases e : kvs[i]? with
    | none => rw [e] at h1; cases h1
    | some p =>
      rw [e] at h1 h2
      cases h1
      cases h2
      obtain ⟨r, hr, rr⟩ := kv_get rel (show (kI kvs)[i]? = some (Sum.inl p.1, p.2) by unfold kI; rw [List.getElem?_map, e]; rfl)
      obtain ⟨es', ep', ⟨o', ho', _, hd'⟩, _, ent⟩ := at0.dictOf.raw
      have eo : o = o' := Option.some.inj (hd.symm.trans ho')
      subst eo
      obtain ⟨rfl, rfl⟩ := dict_ep hdt hd'
      have hi : i < es'.size := by
        have : i < kvs.length := (List.getElem?_eq_some_iff.mp e).1
        have l : (kvs.map fun p => (Sum.inl p.1, p.2) : List (Key × V)).length = kvs.length := List.length_map _
        omega
      obtain ⟨e1, e2⟩ := ent i hi _ _ hr
      exact ⟨es'[i], Array.getElem?_eq_getElem hi, relV_key (k := Sum.inl p.1) (show keyIs (Sum.inl p.1) es'[i].key = true from e1), by rw [e2]; exact rr⟩
  | tup xs ks hm hks =>
    obtain ⟨nb, hd, hx, es, ep, hdt, hsz, ent⟩ := frz_dicn k I h
    refine ⟨nb, hd, hx, es, ep, hdt, by simpa using hsz, by simp, fun i x z h1 h2 => ?_⟩
    rw [List.getElem?_map] at h1 h2
    cases e : xs[i]? with
    | none => rw [e] at h1; cases h1
    | some p =>
      rw [e] at h1 h2
      cases h1
      cases h2
      obtain ⟨en, e1, e2, e3⟩ := ent i p e
      exact ⟨en, e1, by rw [e2]; rfl, e3⟩
end
/-- that at a stands, frozen, the dict of the object o -/
def It1 (a : Addr) (o : Obj) (u : HO) (l : List V) : It :=
  ⟨fun i H => H a = some (.frz o u) ∧ i < l.length, fun i H x H' => H' = H ∧ l[i]? = some x, fun i H => H a = some (.frz o u) ∧ l.length ≤ i⟩
theorem walk_it1 {a : Addr} {o : Obj} {u : HO} {l : List V} : Walk (It1 a o u l) l.length (fun H => H a = some (.frz o u)) (fun i H x H' => H' = H ∧ l[i]? = some x) :=
  ⟨fun _ _ hi q => ⟨q, hi⟩, fun _ q => ⟨q, Nat.le_refl _⟩, fun _ _ _ _ _ _ y => y⟩
section
variable {P : Program} {w : World} {K : PySem.W.Frag} {tg : Expr} {a : Addr} {o : Obj} {u : HO} {kv vv : List V} {es : Array DictEntry} {ep : Nat}
theorem turnK (it : Addr) (hx : o.ExactDict) (hod : o.data = .dict es ep) (sn : Seen es kv vv) : Turn P w K tg (It1 a o u kv) [it] it (fun i h => h.IsKeyIter it a i es.size ep) where
  mem := by simp
  obj := fun i h st b hb => by
    obtain rfl : b = it := by simpa using hb
    obtain ⟨oi, e, c, dd⟩ := st
    refine ⟨oi, e, fun v z => ?_⟩
    rw [dd] at z
    cases z
  keep := fun i h h' st k => st.at fun oi e => k it (by simp) oi e
  item := by
    intro X hP hw hK hc i pins s σ H E I hf st hg
    subst hP hw hK
    obtain ⟨g0, g1, _, g3, g4, g5⟩ := hf it (by simp)
    have ho := (I.hok a _ hg.1).1
    have hi : i < kv.length := hg.2
    have hv : i < vv.length := by rw [sn.same]; exact hi
    obtain ⟨en, e1, e2, _⟩ := sn.at_ i kv[i] vv[i] (List.getElem?_eq_getElem hi) (List.getElem?_eq_getElem hv)
    refine next_key_item st ho hod rfl e1 fun h' st' sb => ⟨en.key, rfl, ?_⟩
    obtain ⟨oi, q1, q2, q3⟩ := id st'
    refine go_of (s := { s with heap := h' }) q1 q2 q3 (by decide) ⟨kv[i], H, I.turned (t' := s.toks) (fun b ob hb e => (sb.2 b hb).trans e) g0 g1 g3 g4 g5, e2, ⟨rfl, List.getElem?_eq_getElem hi⟩, st', fun b hb => (hf b hb).1⟩
  done := by
    intro X hP hw hK hc i pins s σ H E I hf st hg
    subst hP hw hK
    obtain ⟨g0, g1, _, g3, g4, g5⟩ := hf it (by simp)
    have ho := (I.hok a _ hg.1).1
    have hi : kv.length ≤ i := hg.2
    exact next_key_end (I.ok.hd hc) st ho hod rfl (by rw [sn.size]; exact hi) fun h' eb => ⟨rfl, I.turned (t' := s.toks) (fun b ob hb e => eb b ob hb e) g0 g1 g3 g4 g5⟩
  self := fun A i s Q E st h => wpAny_pyIter_keyiter st h
theorem turnV (it : Addr) (hx : o.ExactDict) (hod : o.data = .dict es ep) (sn : Seen es kv vv) : Turn P w K tg (It1 a o u vv) [it] it (fun i h => h.IsValIter it a i es.size ep) where
  mem := by simp
  obj := fun i h st b hb => by
    obtain rfl : b = it := by simpa using hb
    obtain ⟨oi, e, c, dd⟩ := st
    refine ⟨oi, e, fun v z => ?_⟩
    rw [dd] at z
    cases z
  keep := fun i h h' st k => st.at fun oi e => k it (by simp) oi e
  item := by
    intro X hP hw hK hc i pins s σ H E I hf st hg
    subst hP hw hK
    obtain ⟨g0, g1, _, g3, g4, g5⟩ := hf it (by simp)
    have ho := (I.hok a _ hg.1).1
    have hi : i < vv.length := hg.2
    have hk : i < kv.length := by rw [← sn.same]; exact hi
    have hs : i < es.size := by rw [sn.size]; exact hk
    obtain ⟨en, e1, _, e2⟩ := sn.at_ i kv[i] vv[i] (List.getElem?_eq_getElem hk) (List.getElem?_eq_getElem hi)
    rw [Array.getElem?_eq_getElem hs] at e1
    have e1 := Option.some.inj e1
    refine wpAny_pyNext_values_item_raw st ⟨o, ho, hx, hod⟩ hs fun h' st' sb => ⟨es[i].val, rfl, ?_⟩
    obtain ⟨oi, q1, q2, q3⟩ := id st'
    refine go_of (s := { s with heap := h' }) q1 q2 q3 (by decide) ⟨vv[i], H, I.turned (t' := s.toks) (fun b ob hb e => (sb.2 b hb).trans e) g0 g1 g3 g4 g5, by rw [e1]; exact e2, ⟨rfl, List.getElem?_eq_getElem hi⟩, st', fun b hb => (hf b hb).1⟩
  done := by
    intro X hP hw hK hc i pins s σ H E I hf st hg
    subst hP hw hK
    obtain ⟨g0, g1, _, g3, g4, g5⟩ := hf it (by simp)
    have ho := (I.hok a _ hg.1).1
    have hi : vv.length ≤ i := hg.2
    exact wpAny_pyNext_values_end_raw (I.ok.hd hc) st ⟨o, ho, hx, hod⟩ (by rw [sn.size, ← sn.same]; exact hi) fun h' eb => ⟨rfl, I.turned (t' := s.toks) (fun b ob hb e => eb b ob hb e) g0 g1 g3 g4 g5⟩
  self := fun A i s Q E st h => wpAny_pyIter_valiter st h
end
/-- a dict held for ever, as a walk sees it -/
def DicF (T : Tb) (x : V) (H : Hp) (R : Addr → Obj → HO → List V → List V → Prop) : Prop :=
  ∃ (w : Wo) (a : Addr) (o : Obj) (u : HO) (b : Bool) (ks : List D) (kv vv : List V), w.H = H ∧ x = .ref a ∧ H a = some (.frz o u) ∧ DicSh T.P T.w a b u ks kv vv ∧ R a o u kv vv
section
variable {X : Cx} {T : Tb} {tg e : Expr} {td : TE} {apos cpos : Pos}
theorem pi_dkeys (k : Lk T X) (he : PE X e td) : PI X tg e (fun σ H R => td σ H fun x H1 => DicF T x H1 fun a o u kv vv => R (It1 a o u kv) H1) := by
  refine ⟨fun pins s σ H R I h => ?_⟩
  refine thn (he.run pins s σ H _ I h) fun uu s1 ⟨x, H1, I1, rx, w, a, o, u, b, ks, kv, vv, eH, ex, ha, g, q⟩ => ?_
  subst ex eH
  obtain rfl : uu = Value.ref a := rx
  obtain ⟨nb, hd, hx, es, ep, hdt, sn⟩ := frz_seen k I1 ha g
  exact iter_keys nb hd hx hdt (pi_one (tk := s1.toks) I1 _ (turnK _ hx hdt sn) ⟨_, Heap.get?_push_size _ rfl, rfl, rfl⟩ q)
theorem pi_dvals (k : Lk T X) (he : PE X e td) (hbase : attributeBase e "values" X.env (eval e X.env) = eval e X.env := by rfl) (hline : (apos.endLine == cpos.line) = true := by rfl) :
    PI X tg (.Call (.Attribute e "values" apos) [] [] cpos) (fun σ H R => td σ H fun x H1 => DicF T x H1 fun a o u kv vv => R (It1 a o u vv) H1) := by
  refine ⟨fun pins s σ H R I h => ?_⟩
  refine wpAny_Call_method (T := "dict") (id := "dict.values") hbase rfl hline F.plainAttrs_dict F.slot_dict_values F.type_dict_values (thn (he.run pins s σ H _ I h) fun uu s1 ⟨x, H1, I1, rx, w, a, o, u, b, ks, kv, vv, eH, ex, ha, g, q⟩ => ?_)
  subst ex eH
  obtain rfl : uu = Value.ref a := rx
  obtain ⟨nb, hd, hx, es, ep, hdt, sn⟩ := frz_seen k I1 ha g
  have raw : s1.heap.DictRaw a es ep := ⟨o, hd, hx, hdt⟩
  refine ⟨raw.typeIs, ?_, ?_⟩
  · intro c e; cases e; exact ⟨o, hd, hx.2.1⟩
  have I2 : Inv X pins σ w.H { s1 with heap := s1.heap.push { cls := .type "dict_values", data := .fields #[.ref a] } } := I1.kept (t' := s1.toks) fun b ob q => Heap.get?_push_of_some _ q
  have fin : wpAny (model X.prog X.w) X.A (pyIter (.ref s1.heap.objs.size)) (PIE X pins σ tg R) X.xe { s1 with heap := s1.heap.push { cls := .type "dict_values", data := .fields #[.ref a] } } := by
    refine wpAny_pyIter_values_raw (d := a) ⟨_, Heap.get?_push_size _ rfl, rfl, rfl⟩ (raw.at fun o e => Heap.get?_push_of_some _ e) (pi_one (tk := s1.toks) I2 _ (turnV _ hx hdt sn) ⟨_, Heap.get?_push_size _ rfl, rfl, rfl⟩ q)
  show wpAny _ _ (callWith cpos (.builtin "dict.values") [.ref a] [] []) _ X.xe s1
  exact method_meetsIn F.slot_dict_values F.entry_dict_values rfl (PySem.evalArgs_none ⟨rfl, raw.typeIs, F.args_dict_values_1 _, _, meets_dict_values_raw a nb, ⟨es, ep, raw⟩, fin⟩)
end
end Q
set_option Elab.async false
set_option linter.all false
set_option maxRecDepth 100000
set_option maxHeartbeats 4000000
namespace Q
open PySem PySem.Spec PyProof.Rows L2
mutual
def D.py : D → PyData
  | .non => .none
  | .bl b => .bool b
  | .int i => .int i
  | .str x => .str x
  | .lst ds => .list (pyA ds)
  | .tup ds => .tuple (pyA ds)
  | .dct _ _ _ => .none
  | .fn _ => .none
  | .loc _ => .none
def pyA : List D → List PyData
  | [] => []
  | d :: ds => d.py :: pyA ds
end
mutual
def okD : D → Nat → Bool
  | .non, _ => true
  | .bl _, _ => true
  | .int _, _ => true
  | .str x, _ => PyData.strOk x
  | .lst ds, n => match n with
    | 0 => false
    | n + 1 => okA ds n
  | .tup ds, n => match n with
    | 0 => false
    | n + 1 => okA ds n
  | .dct _ _ _, _ => false
  | .fn _, _ => false
  | .loc _, _ => false
def okA : List D → Nat → Bool
  | [], _ => true
  | d :: ds, n => okD d n && okA ds n
end
mutual
theorem okD_lay : ∀ (d : D) (n : Nat), okD d n = true → d.py.canLay0 = true ∧ d.py.depth ≤ n
  | .non, n, _ => ⟨by simp [D.py, PyData.canLay0], by simp [D.py, PyData.depth]⟩
  | .bl b, n, _ => ⟨by simp [D.py, PyData.canLay0], by simp [D.py, PyData.depth]⟩
  | .int i, n, _ => ⟨by simp [D.py, PyData.canLay0], by simp [D.py, PyData.depth]⟩
  | .str x, n, h => ⟨by simpa [D.py, PyData.canLay0, okD] using h, by simp [D.py, PyData.depth]⟩
  | .lst ds, 0, h => by simp [okD] at h
  | .lst ds, n + 1, h => by
    obtain ⟨a, b⟩ := okA_lay ds n (by simpa [okD] using h)
    exact ⟨by simpa [D.py, PyData.canLay0] using a, by simp only [D.py, PyData.depth]; omega⟩
  | .tup ds, 0, h => by simp [okD] at h
  | .tup ds, n + 1, h => by
    obtain ⟨a, b⟩ := okA_lay ds n (by simpa [okD] using h)
    exact ⟨by simpa [D.py, PyData.canLay0] using a, by simp only [D.py, PyData.depth]; omega⟩
  | .dct _ _ _, n, h => by simp [okD] at h
  | .fn _, n, h => by simp [okD] at h
  | .loc _, n, h => by simp [okD] at h
theorem okA_lay : ∀ (ds : List D) (n : Nat), okA ds n = true → PyData.canLayAll0 (pyA ds) = true ∧ PyData.depthAll (pyA ds) ≤ n
  | [], n, _ => ⟨by simp [pyA, PyData.canLayAll0], by simp [pyA, PyData.depthAll]⟩
  | d :: ds, n, h => by
    simp only [okA, Bool.and_eq_true] at h
    obtain ⟨a, b⟩ := okD_lay d n h.1
    obtain ⟨a', b'⟩ := okA_lay ds n h.2
    exact ⟨by simp [pyA, PyData.canLayAll0, a, a'], by simp only [pyA, PyData.depthAll]; omega⟩
end
abbrev ok60 (d : D) : Bool := okD d 60
theorem ok60_shaped {d : D} (h : ok60 d = true) : SeqAt.shaped d.py = true := by
  obtain ⟨a, b⟩ := okD_lay d 60 h
  unfold SeqAt.shaped
  rw [a, Bool.true_and, decide_eq_true_eq]
  omega
section
variable {T : Tb} {w : Wo} {S : List MO} {K : PySem.W.Frag} {H : Hp}
mutual
theorem rep_dp (hk : K = T.K) (hs : Same w.G H) : ∀ {d : D} {v : V} {n : Nat}, okD d n = true → Rep T w.lam w.G d v → Dp K H v d.py
  | _, _, _, _, .non => by simp only [D.py]; exact .non
  | _, _, _, _, .bl b => by simp only [D.py]; exact .bl b
  | _, _, _, _, .int b => by simp only [D.py]; exact .int b
  | _, _, _, _, .str b => by simp only [D.py]; exact .str b
  | _, _, 0, h, .lst _ _ => by simp [okD] at h
  | _, _, n + 1, h, .lst q r => by
    simp only [D.py]
    exact .lst (.inl (same_rd hs q)) (repA_dp hk hs (n := n) (by simpa [okD] using h) r)
  | _, _, 0, h, .tup _ _ => by simp [okD] at h
  | _, _, n + 1, h, .tup q r => by
    simp only [D.py]
    exact .tup (by rw [hk]; exact same_seqT hs q) (repA_dp hk hs (n := n) (by simpa [okD] using h) r)
  | _, _, _, h, .dct _ _ _ _ => by simp [okD] at h
  | _, _, _, h, .fn _ => by simp [okD] at h
  | _, _, _, h, .loc _ => by simp [okD] at h
theorem repA_dp (hk : K = T.K) (hs : Same w.G H) : ∀ {ds : List D} {vs : List V} {n : Nat}, okA ds n = true → RepA T w.lam w.G ds vs → DpAll K H vs (pyA ds)
  | _, _, _, _, .nil => by simp only [pyA]; exact .nil
  | _, _, _, h, .cons q r => by
    simp only [okA, Bool.and_eq_true] at h
    simp only [pyA]
    exact .cons (rep_dp hk hs h.1 q) (repA_dp hk hs h.2 r)
end
theorem repB_dp (hk : K = T.K) (d : Wd T w S) {x : D} {v : V} (h : ok60 x = true) (r : RepB T w x v) : Dp K w.H v x.py := by
  rcases r with r | ⟨ds, a, vs, e, e2, h3, h4, h5⟩ | ⟨b, _, _, a, _, _, _, e, _⟩
  · exact rep_dp hk d.sub h r
  · subst e; subst e2
    have h' : okA ds 59 = true := by simpa [ok60, okD] using h
    simp only [D.py]
    exact .lst (.inl (.inl h3)) (repA_dp hk d.sub h' h5)
  · subst e
    simp [ok60, okD] at h
end
/-- equality of data -/
def eqD (x y : D) : Bool := PyData.eqv x.py y.py
def eqA (x y : List D) : Bool := PyData.eqvAll (pyA x) (pyA y)
def isNonD : D → Bool
  | .non => true
  | _ => false
/-- order of data that are alike -/
def ltD (x y : D) : Bool := PySem.W.dataLt x.py y.py
def ordOk (x y : D) : Bool := ok60 x && ok60 y && PySem.W.alike x.py y.py
def cmpD : CmpOp → D → D → Option D
  | .Eq, x, y => if ok60 x && ok60 y then some (.bl (eqD x y)) else none
  | .NotEq, x, y => if ok60 x && ok60 y then some (.bl (!eqD x y)) else none
  | .Lt, .int i, .int j => some (.bl (decide (i < j)))
  | .LtE, .int i, .int j => some (.bl (decide (i ≤ j)))
  | .Gt, .int i, .int j => some (.bl (decide (j < i)))
  | .GtE, .int i, .int j => some (.bl (decide (j ≤ i)))
  | .Lt, .tup xs, .tup ys => if ordOk (.tup xs) (.tup ys) then some (.bl (ltD (.tup xs) (.tup ys))) else none
  | .LtE, .tup xs, .tup ys => if ordOk (.tup xs) (.tup ys) then some (.bl (!ltD (.tup ys) (.tup xs))) else none
  | .Gt, .tup xs, .tup ys => if ordOk (.tup xs) (.tup ys) then some (.bl (ltD (.tup ys) (.tup xs))) else none
  | .GtE, .tup xs, .tup ys => if ordOk (.tup xs) (.tup ys) then some (.bl (!ltD (.tup xs) (.tup ys))) else none
  | .Is, x, .non => some (.bl (isNonD x))
  | .IsNot, x, .non => some (.bl (!isNonD x))
  | .In, x, .lst ys => if ok60 x && ok60 (.lst ys) then some (.bl (ys.any fun z => eqD z x)) else none
  | .NotIn, x, .lst ys => if ok60 x && ok60 (.lst ys) then some (.bl (!ys.any fun z => eqD z x)) else none
  | .In, x, .tup ys => if ok60 x && ok60 (.tup ys) then some (.bl (ys.any fun z => eqD z x)) else none
  | .NotIn, x, .tup ys => if ok60 x && ok60 (.tup ys) then some (.bl (!ys.any fun z => eqD z x)) else none
  | .In, x, .dct b ks vs => if keyOk b x then some (.bl (dLook ks vs x).isSome) else none
  | .NotIn, x, .dct b ks vs => if keyOk b x then some (.bl (!(dLook ks vs x).isSome)) else none
  | _, _, _ => none
theorem any_py (x : D) : ∀ ys : List D, ((pyA ys).any fun z => PyData.eqv z x.py) = ys.any fun z => eqD z x
  | [] => by simp [pyA]
  | y :: ys => by simp only [pyA, List.any_cons]; rw [any_py x ys]; rfl
section
variable {T : Tb} {X : Cx}
theorem sub_D (k : Lk T X) : OpR X (binaryOp .Sub) (rD T subD) := by
  intro pins s σ H x y v u Q I rx ry h
  obtain ⟨w, S, dx, dy, d, rfl, wd, hx, hy, hd, q⟩ := h
  cases dx <;> cases dy <;> simp only [subD, reduceCtorEq, Option.some.injEq] at hd
  subst hd
  exact op_sub pins s σ _ x y v u Q I rx ry ⟨_, _, hx.int_, hy.int_, q _ _ (.refl wd) (.int _)⟩
theorem fdiv_D (k : Lk T X) : OpR X (binaryOp .FloorDiv) (rD T fdivD) := by
  intro pins s σ H x y v u Q I rx ry h
  obtain ⟨w, S, dx, dy, d, rfl, wd, hx, hy, hd, q⟩ := h
  cases dx <;> cases dy <;> simp only [fdivD, reduceCtorEq, Option.some.injEq, Option.ite_none_right_eq_some] at hd
  obtain ⟨hl, hd⟩ := hd
  subst hd
  exact op_fdiv pins s σ _ x y v u Q I rx ry ⟨_, _, hx.int_, hy.int_, hl, q _ _ (.refl wd) (.int _)⟩
theorem mod_D (k : Lk T X) : OpR X (binaryOp .Mod) (rD T modD) := by
  intro pins s σ H x y v u Q I rx ry h
  obtain ⟨w, S, dx, dy, d, rfl, wd, hx, hy, hd, q⟩ := h
  cases dx <;> cases dy <;> simp only [modD, reduceCtorEq, Option.some.injEq, Option.ite_none_right_eq_some] at hd
  obtain ⟨hl, hd⟩ := hd
  subst hd
  exact op_mod pins s σ _ x y v u Q I rx ry ⟨_, _, hx.int_, hy.int_, hl, q _ _ (.refl wd) (.int _)⟩
theorem pow_D (k : Lk T X) : OpR X (binaryOp .Pow) (rD T powD) := by
  intro pins s σ H x y v u Q I rx ry h
  obtain ⟨w, S, dx, dy, d, rfl, wd, hx, hy, hd, q⟩ := h
  cases dx <;> cases dy <;> simp only [powD, reduceCtorEq, Option.some.injEq, Option.ite_none_right_eq_some] at hd
  obtain ⟨hl, hd⟩ := hd
  subst hd
  exact op_pow pins s σ _ x y v u Q I rx ry ⟨_, _, hx.int_, hy.int_, hl, q _ _ (.refl wd) (.int _)⟩
theorem repA_flat {T : Tb} {lam : List Addr} {G : Hp} {ds : List D} {vs : List V} (r : RepA T lam G ds vs) : ∀ n : Nat, RepA T lam G (List.replicate n ds).flatten (List.replicate n vs).flatten
  | 0 => by simp; exact .nil
  | n + 1 => by
    rw [List.replicate_succ, List.replicate_succ, List.flatten_cons, List.flatten_cons]
    exact r.app (repA_flat r n)
theorem op_repR : OpR X (binaryOp .Mult) (fun x y H Q => ∃ l k xs, x = .ref l ∧ y = .int k ∧ Rd H l (.lst xs) ∧ -(2 ^ 63) ≤ k ∧ k < 2 ^ 63 ∧ xs.length * k.toNat ≤ sizeLine ∧ ∀ p, H p = none → Q (.ref p) (upd H p (.lst (List.replicate k.toNat xs).flatten))) := by
  intro pins s σ H x y v u Q I rx ry h
  obtain ⟨l, k, xs, rfl, rfl, hH, h1, h2, hz, q⟩ := h
  cases rx
  obtain ⟨t, rfl⟩ := ry
  obtain ⟨z, its, n, r, e⟩ := hH.ok I.hok
  have hl := r.length
  have hz' : its.toArray.size * k.toNat ≤ sizeLine := by rw [List.size_toArray, ← hl]; exact hz
  have c1 : ¬ its.toArray.size * k.toNat > (2 ^ 63 - 1) / 8 := by
    have : (sizeLine : Nat) ≤ (2 ^ 63 - 1) / 8 := by decide
    omega
  have c2 : ¬ (!Builtin.List.listFitsIndex k) = true := by rw [fitsIndex_both h1 h2]; decide
  have c3 : ¬ Builtin.List.listTooLong (its.toArray.size * k.toNat) = true := by rw [notLongL hz']; decide
  have ff : ∀ m : Nat, List.foldl (fun a b => a ++ b) #[] (List.replicate m its.toArray) = (List.replicate m its).flatten.toArray := fun m => by
    have q := foldl_rep its m []
    rwa [List.nil_append] at q
  have c4 : List.foldl (fun a b => a ++ b) #[] (List.replicate (if its.toArray.isEmpty = true then 0 else k.toNat) its.toArray) = (List.replicate k.toNat its).flatten.toArray := by
    rw [ff]
    cases its with
    | nil => simp
    | cons a r' => rw [if_neg (by simp)]
  refine wpAny_binaryOp_repeat_ref (T := "list") (U := "int") (by decide) ⟨_, e, rfl⟩ (fun s' => typeIs_int s' k t) noFill_list_mul F.fills_int_mul F.slot_int_rmul repeat_list F.slot_int_index.lookup (call_meets F.slot_int_rmul (typeIs_int s k t) F.entry_int_rmul (F.args_int_rmul_2 _ _) (int___rmul___int_list k t l its.toArray n) ⟨e, rfl, ⟨_, e, rfl⟩, call_meets F.slot_list_mul ⟨_, e, rfl⟩ F.entry_list_mul (F.args_list_mul_2 _ _) (AutoListH.list___mul___list_int_3 l its.toArray n k t c2 c1 c3) ⟨e, ?_⟩⟩)
  rw [c4]
  exact ⟨.ref _, _, I.lnew (t' := s.toks) (r.rep k.toNat) (by rw [PyProof.Rows.lm_len_rep_flat]; rwa [Nat.mul_comm]), rfl, q _ I.fresh⟩
theorem mul_D (k : Lk T X) : OpR X (binaryOp .Mult) (rD T mulD) := by
  intro pins s σ H x y v u Q I rx ry h
  obtain ⟨w, S, dx, dy, d, rfl, wd, hx, hy, hd, q⟩ := h
  cases dx <;> cases dy <;> simp only [mulD, reduceCtorEq, Option.some.injEq, Option.ite_none_right_eq_some] at hd
  case int.int i j =>
    obtain ⟨hl, hd⟩ := hd
    subst hd
    exact op_mul pins s σ _ x y v u Q I rx ry ⟨i, j, hx.int_, hy.int_, hl, q _ _ (.refl wd) (.int _)⟩
  case lst.int i j =>
    obtain ⟨hl, hd⟩ := hd
    subst hd
    obtain ⟨a, vs, e1, h1, r1⟩ := hx.lst_ wd
    refine op_repR pins s σ _ x y v u Q I rx ry ⟨a, j, vs, e1, hy.int_, h1, hl.1, hl.2.1, by rw [← r1.length]; exact hl.2.2, fun p hp => ?_⟩
    obtain ⟨al, r⟩ := new_lst wd hp (repA_flat r1 j.toNat)
    exact q _ _ al r
  case tup.int i j =>
    obtain ⟨⟨h0, h1, h2, h3⟩, hd⟩ := hd
    subst hd
    obtain ⟨a, vs, e1, h4, r1⟩ := hx.tup_ wd
    refine op_repT pins s σ _ x y v u Q I rx ry ⟨a, j, vs, e1, hy.int_, by rw [k.K]; exact h4, fun z => h0 (by subst z; cases r1; rfl), h1, h2, by rw [← r1.length]; exact h3, fun p hp => ?_⟩
    obtain ⟨al, r⟩ := new_tup wd hp (repA_flat r1 j.toNat)
    exact q _ _ al r
theorem repB_isNon {T : Tb} {w : Wo} {d : D} {v : V} (r : RepB T w d v) : decide (v = .non) = isNonD d := by
  rcases r with r | ⟨ds, a, vs, e, e2, _⟩ | ⟨_, _, _, _, _, _, _, e, e2, _⟩
  · cases r <;> simp [isNonD]
  · subst e; subst e2; simp [isNonD]
  · subst e; subst e2; simp [isNonD]
theorem ordOk_to {x y : D} (h : ordOk x y = true) : ok60 x = true ∧ ok60 y = true ∧ PySem.W.alike x.py y.py = true := by
  unfold ordOk at h
  simp only [Bool.and_eq_true] at h
  exact ⟨h.1.1, h.1.2, h.2⟩
theorem ok60_dp {d : D} (h : ok60 d = true) : d.py.depth ≤ 60 := (okD_lay d 60 h).2
theorem ord_read {pins : List (Addr × Obj)} {σ : L2.St} {s : Shared} {w : Wo} {S : List MO} {x y : D} {v u : V} {a b : Value} (k : Lk T X) (hu : X.A.units + 64 < cLine) (I : Inv X pins σ w.H s) (wd : Wd T w S) (h : ordOk x y = true) (hx : RepB T w x v) (hy : RepB T w y u) (ra : RelV v a) (rb : RelV u b) :
    (∃ as, PySem.Reads s.heap a x.py as) ∧ (∃ bs, PySem.Reads s.heap b y.py bs) ∧ X.A.units + min x.py.depth y.py.depth < cLine := by
  obtain ⟨h1, h2, h3⟩ := ordOk_to h
  exact ⟨Dp.reads I _ _ _ (repB_dp k.K wd h1 hx) ra, Dp.reads I _ _ _ (repB_dp k.K wd h2 hy) rb, by have := ok60_dp h1; omega⟩
theorem lt_D (k : Lk T X) (hu : X.A.units + 64 < cLine) : OpR X (compareOp .Lt) (rD T (cmpD .Lt)) := by
  intro pins s σ H x y v u Q I rx ry h
  obtain ⟨w, S, dx, dy, d, rfl, wd, hx, hy, hd, q⟩ := h
  cases dx <;> cases dy <;> first | (simp only [cmpD, reduceCtorEq, Option.some.injEq] at hd; done) | skip
  · simp only [cmpD, Option.some.injEq] at hd
    subst hd
    exact op_lt pins s σ _ x y v u Q I rx ry ⟨_, _, hx.int_, hy.int_, q _ _ (.refl wd) (.bl _)⟩
  · simp only [cmpD, Option.ite_none_right_eq_some, Option.some.injEq] at hd
    obtain ⟨ho, rfl⟩ := hd
    obtain ⟨⟨as, r1⟩, ⟨bs, r2⟩, hb⟩ := ord_read k hu I wd ho hx hy rx ry
    exact PySem.W.rcLt_alike _ _ _ _ _ _ _ _ r1 r2 (ordOk_to ho).2.2 (by simp [D.py]) hb X.prog X.w X.xe (EP X pins σ Q) ⟨.bl _, w.H, I, rfl, q _ _ (.refl wd) (.bl _)⟩
theorem le_D (k : Lk T X) (hu : X.A.units + 64 < cLine) : OpR X (compareOp .LtE) (rD T (cmpD .LtE)) := by
  intro pins s σ H x y v u Q I rx ry h
  obtain ⟨w, S, dx, dy, d, rfl, wd, hx, hy, hd, q⟩ := h
  cases dx <;> cases dy <;> first | (simp only [cmpD, reduceCtorEq, Option.some.injEq] at hd; done) | skip
  · simp only [cmpD, Option.some.injEq] at hd
    subst hd
    exact op_le pins s σ _ x y v u Q I rx ry ⟨_, _, hx.int_, hy.int_, q _ _ (.refl wd) (.bl _)⟩
  · simp only [cmpD, Option.ite_none_right_eq_some, Option.some.injEq] at hd
    obtain ⟨ho, rfl⟩ := hd
    obtain ⟨⟨as, r1⟩, ⟨bs, r2⟩, hb⟩ := ord_read k hu I wd ho hx hy rx ry
    exact PySem.W.rcLe_alike _ _ _ _ _ _ _ _ r1 r2 (ordOk_to ho).2.2 (by simp [D.py]) hb X.prog X.w X.xe (EP X pins σ Q) ⟨.bl _, w.H, I, rfl, q _ _ (.refl wd) (.bl _)⟩
theorem gt_D (k : Lk T X) (hu : X.A.units + 64 < cLine) : OpR X (compareOp .Gt) (rD T (cmpD .Gt)) := by
  intro pins s σ H x y v u Q I rx ry h
  obtain ⟨w, S, dx, dy, d, rfl, wd, hx, hy, hd, q⟩ := h
  cases dx <;> cases dy <;> first | (simp only [cmpD, reduceCtorEq, Option.some.injEq] at hd; done) | skip
  · simp only [cmpD, Option.some.injEq] at hd
    subst hd
    exact op_gt pins s σ _ x y v u Q I rx ry ⟨_, _, hx.int_, hy.int_, q _ _ (.refl wd) (.bl _)⟩
  · simp only [cmpD, Option.ite_none_right_eq_some, Option.some.injEq] at hd
    obtain ⟨ho, rfl⟩ := hd
    obtain ⟨⟨as, r1⟩, ⟨bs, r2⟩, hb⟩ := ord_read k hu I wd ho hx hy rx ry
    exact PySem.W.rcGt_alike _ _ _ _ _ _ _ _ r1 r2 (ordOk_to ho).2.2 (by simp [D.py]) hb X.prog X.w X.xe (EP X pins σ Q) ⟨.bl _, w.H, I, rfl, q _ _ (.refl wd) (.bl _)⟩
theorem ge_D (k : Lk T X) (hu : X.A.units + 64 < cLine) : OpR X (compareOp .GtE) (rD T (cmpD .GtE)) := by
  intro pins s σ H x y v u Q I rx ry h
  obtain ⟨w, S, dx, dy, d, rfl, wd, hx, hy, hd, q⟩ := h
  cases dx <;> cases dy <;> first | (simp only [cmpD, reduceCtorEq, Option.some.injEq] at hd; done) | skip
  · simp only [cmpD, Option.some.injEq] at hd
    subst hd
    exact op_ge pins s σ _ x y v u Q I rx ry ⟨_, _, hx.int_, hy.int_, q _ _ (.refl wd) (.bl _)⟩
  · simp only [cmpD, Option.ite_none_right_eq_some, Option.some.injEq] at hd
    obtain ⟨ho, rfl⟩ := hd
    obtain ⟨⟨as, r1⟩, ⟨bs, r2⟩, hb⟩ := ord_read k hu I wd ho hx hy rx ry
    exact PySem.W.rcGe_alike _ _ _ _ _ _ _ _ r1 r2 (ordOk_to ho).2.2 (by simp [D.py]) hb X.prog X.w X.xe (EP X pins σ Q) ⟨.bl _, w.H, I, rfl, q _ _ (.refl wd) (.bl _)⟩
theorem eq_D (k : Lk T X) (hu : X.A.units + 64 < cLine) : OpR X (compareOp .Eq) (rD T (cmpD .Eq)) := by
  intro pins s σ H x y v u Q I rx ry h
  obtain ⟨w, S, dx, dy, d, rfl, wd, hx, hy, hd, q⟩ := h
  simp only [cmpD, Option.ite_none_right_eq_some, Bool.and_eq_true, Option.some.injEq] at hd
  obtain ⟨⟨h1, h2⟩, hd⟩ := hd
  subst hd
  exact op_eqD hu pins s σ _ x y v u Q I rx ry ⟨dx.py, dy.py, repB_dp k.K wd h1 hx, repB_dp k.K wd h2 hy, ok60_shaped h1, ok60_shaped h2, q _ _ (.refl wd) (.bl _)⟩
theorem ne_D (k : Lk T X) (hu : X.A.units + 64 < cLine) : OpR X (compareOp .NotEq) (rD T (cmpD .NotEq)) := by
  intro pins s σ H x y v u Q I rx ry h
  obtain ⟨w, S, dx, dy, d, rfl, wd, hx, hy, hd, q⟩ := h
  simp only [cmpD, Option.ite_none_right_eq_some, Bool.and_eq_true, Option.some.injEq] at hd
  obtain ⟨⟨h1, h2⟩, hd⟩ := hd
  subst hd
  exact op_neD hu pins s σ _ x y v u Q I rx ry ⟨dx.py, dy.py, repB_dp k.K wd h1 hx, repB_dp k.K wd h2 hy, ok60_shaped h1, ok60_shaped h2, q _ _ (.refl wd) (.bl _)⟩
theorem is_D (k : Lk T X) : OpR X (compareOp .Is) (rD T (cmpD .Is)) := by
  intro pins s σ H x y v u Q I rx ry h
  obtain ⟨w, S, dx, dy, d, rfl, wd, hx, hy, hd, q⟩ := h
  cases dy <;> simp only [cmpD, reduceCtorEq, Option.some.injEq] at hd
  subst hd
  refine op_isN pins s σ _ x y v u Q I rx ry ⟨hy.none_, ?_⟩
  rw [repB_isNon hx]
  exact q _ _ (.refl wd) (.bl _)
theorem isnot_D (k : Lk T X) : OpR X (compareOp .IsNot) (rD T (cmpD .IsNot)) := by
  intro pins s σ H x y v u Q I rx ry h
  obtain ⟨w, S, dx, dy, d, rfl, wd, hx, hy, hd, q⟩ := h
  cases dy <;> simp only [cmpD, reduceCtorEq, Option.some.injEq] at hd
  subst hd
  refine op_notN pins s σ _ x y v u Q I rx ry ⟨hy.none_, ?_⟩
  rw [repB_isNon hx]
  exact q _ _ (.refl wd) (.bl _)
theorem in_D (k : Lk T X) (hu : X.A.units + 65 < cLine) : OpR X (compareOp .In) (rD T (cmpD .In)) := by
  intro pins s σ H x y v u Q I rx ry h
  obtain ⟨w, S, dx, dy, d, rfl, wd, hx, hy, hd, q⟩ := h
  cases dy <;> simp only [cmpD, reduceCtorEq, Option.some.injEq, Option.ite_none_right_eq_some, Bool.and_eq_true] at hd
  case lst ys =>
    obtain ⟨⟨h1, h2⟩, hd⟩ := hd
    subst hd
    refine op_inD hu pins s σ _ x y v u Q I rx ry ⟨dx.py, pyA ys, repB_dp k.K wd h1 hx, by have := repB_dp k.K wd h2 hy; simpa [D.py] using this, ok60_shaped h1, by have := ok60_shaped h2; simpa [D.py] using this, ?_⟩
    rw [any_py]
    exact q _ _ (.refl wd) (.bl _)
  case tup ys =>
    obtain ⟨⟨h1, h2⟩, hd⟩ := hd
    subst hd
    obtain ⟨as, r1⟩ := Dp.reads I dx.py x v (repB_dp k.K wd h1 hx) rx
    obtain ⟨bs, r2⟩ := Dp.reads I (.tuple (pyA ys)) y u (by have := repB_dp k.K wd h2 hy; simpa [D.py] using this) ry
    have s2 : SeqAt.shaped (.tuple (pyA ys)) = true := by have := ok60_shaped h2; simpa [D.py] using this
    refine SeqAt.in_tuple_reads r2 r1 (SeqAt.canLay_of_shaped s2) (SeqAt.canLay_of_shaped (ok60_shaped h1)) (room_in_shaped (ok60_shaped h1) hu) ⟨.bl _, _, I, rfl, ?_⟩
    rw [any_py]
    exact q _ _ (.refl wd) (.bl _)
  case dct b ks vs =>
    obtain ⟨h1, hd⟩ := hd
    subst hd
    obtain ⟨a, rfl, g⟩ := dicRd_of wd hy
    cases (show u = Value.ref a from ry)
    exact dic_in k (by omega) wd I g h1 hx rx fun s' I' => ⟨.bl _, _, I', rfl, q _ _ (.refl wd) (.bl _)⟩
theorem notin_D (k : Lk T X) (hu : X.A.units + 65 < cLine) : OpR X (compareOp .NotIn) (rD T (cmpD .NotIn)) := by
  intro pins s σ H x y v u Q I rx ry h
  obtain ⟨w, S, dx, dy, d, rfl, wd, hx, hy, hd, q⟩ := h
  cases dy <;> simp only [cmpD, reduceCtorEq, Option.some.injEq, Option.ite_none_right_eq_some, Bool.and_eq_true] at hd
  case lst ys =>
    obtain ⟨⟨h1, h2⟩, hd⟩ := hd
    subst hd
    refine op_notInD hu pins s σ _ x y v u Q I rx ry ⟨dx.py, pyA ys, repB_dp k.K wd h1 hx, by have := repB_dp k.K wd h2 hy; simpa [D.py] using this, ok60_shaped h1, by have := ok60_shaped h2; simpa [D.py] using this, ?_⟩
    rw [any_py]
    exact q _ _ (.refl wd) (.bl _)
  case tup ys =>
    obtain ⟨⟨h1, h2⟩, hd⟩ := hd
    subst hd
    obtain ⟨as, r1⟩ := Dp.reads I dx.py x v (repB_dp k.K wd h1 hx) rx
    obtain ⟨bs, r2⟩ := Dp.reads I (.tuple (pyA ys)) y u (by have := repB_dp k.K wd h2 hy; simpa [D.py] using this) ry
    have s2 : SeqAt.shaped (.tuple (pyA ys)) = true := by have := ok60_shaped h2; simpa [D.py] using this
    refine SeqAt.notIn_tuple_reads r2 r1 (SeqAt.canLay_of_shaped s2) (SeqAt.canLay_of_shaped (ok60_shaped h1)) (room_in_shaped (ok60_shaped h1) hu) ⟨.bl _, _, I, rfl, ?_⟩
    rw [any_py]
    exact q _ _ (.refl wd) (.bl _)
  case dct b ks vs =>
    obtain ⟨h1, hd⟩ := hd
    subst hd
    obtain ⟨a, rfl, g⟩ := dicRd_of wd hy
    cases (show u = Value.ref a from ry)
    exact dic_notin k (by omega) wd I g h1 hx rx fun s' I' => ⟨.bl _, _, I', rfl, q _ _ (.refl wd) (.bl _)⟩
end
end Q
set_option Elab.async false
set_option linter.all false
set_option maxRecDepth 100000
set_option maxHeartbeats 4000000
namespace Q
open PySem PySem.Spec PyProof.Rows L2

/-- a slot's value -/
def getv (i : Nat) : List SV → M D := fun sd => match sd[i]? with
  | some (.val d) => pure d
  | _ => M.bad
/-- .. lent -/
def getb (i : Nat) : List SV → M D := fun sd => match sd[i]? with
  | some (.val d) => pure d
  | some (.own ds) => pure (.lst ds)
  | some (.dic b ks vs) => pure (.dct b ks vs)
  | _ => M.bad
def asB : D → M Bool
  | .bl b => pure b
  | _ => M.bad
def asI : D → M Int
  | .int b => pure b
  | _ => M.bad
theorem bind_as {α β γ : Type} (m : M α) (k : α → M β) (l : β → M γ) : (m >>= k) >>= l = m >>= fun a => k a >>= l := by
  funext S
  rw [bind_ap, bind_ap, bind_ap]
  cases m S <;> rfl
theorem pure_bind_ {α β : Type} (a : α) (k : α → M β) : (pure a : M α) >>= k = k a := rfl
theorem bad_bind_ {α β : Type} (k : α → M β) : (M.bad : M α) >>= k = M.bad := rfl
def mkTup (ds : List D) : M D := M.lift (if ds.length ≤ sizeLine then some (.tup ds) else none)
def mkLst (ds : List D) : M D := M.lift (if ds.length ≤ sizeLine then some (.lst ds) else none)
def notM (d : D) : M D := asB d >>= fun c => pure (.bl (!c))
def negM (d : D) : M D := asI d >>= fun i => pure (.int (-i))
section
variable {X : Cx} {T : Tb} {W : WX}
theorem tR_pure {α β : Type} {R : Wo → α → β → Prop} {a : α} {σ : L2.St} {H : Hp} {Q : β → Hp → Prop} (h : tR T W R (fun _ => pure a) σ H Q) {b : β} (r : ∀ w, w.H = H → R w a b) : Q b H := by
  obtain ⟨sd, S, w, e, d, s, q⟩ := h
  subst e
  exact q b w (.refl w) d (r w rfl)
theorem je_non {j pos} : PE X (.Constant .none j pos) (tM T W fun _ => pure .non) := PE.imp pe_non fun σ H Q h => tR_pure h fun _ _ => .non
theorem je_bl {b j pos} : PE X (.Constant (.bool b) j pos) (tM T W fun _ => pure (.bl b)) := PE.imp pe_bl fun σ H Q h => tR_pure h fun _ _ => .bl b
theorem je_int {i j pos} : PE X (.Constant (.int i) j pos) (tM T W fun _ => pure (.int i)) := PE.imp pe_int fun σ H Q h => tR_pure h fun _ _ => .int i
theorem je_str {x j pos} : PE X (.Constant (.str x) j pos) (tM T W fun _ => pure (.str x)) := PE.imp pe_str fun σ H Q h => tR_pure h fun _ _ => .str x
theorem jb_var {i : Nat} {x : Str} {pos : Pos} (hN : X.N[i]? = some x) (hv : Vis X.env.scope x) (hd : (x == ("__debug__" : Str)) = false) (hcd : (x == ("__classdict__" : Str)) = false) : PE X (.Name x pos) (tMB T W (getb i)) :=
  PE.imp (pe_var hN hv hd hcd) fun σ H Q h => by
    obtain ⟨sd, S, w, e, d, s, q⟩ := h
    subst e
    unfold getb at q
    cases hi : sd[i]? with
    | none => rw [hi] at q; exact q.elim
    | some sv =>
      rw [hi] at q
      obtain ⟨ov, ho, hsv⟩ := s.get hi
      cases sv with
      | un => exact q.elim
      | raw vv => exact q.elim
      | val dd =>
        obtain ⟨v, e, r⟩ := hsv
        subst e
        exact ⟨v, ho, q v w (.refl w) d (.inl r)⟩
      | own ds =>
        obtain ⟨a, vs, e, h1, h2, h3, r⟩ := hsv
        subst e
        exact ⟨.ref a, ho, q _ w (.refl w) d (.inr (.inl ⟨ds, a, vs, rfl, rfl, h1, h3, r⟩))⟩
      | dic b ks vs =>
        obtain ⟨a, u, kv, vv, e, h1, h2, h3, h4, r1, r2⟩ := hsv
        subst e
        exact ⟨.ref a, ho, q _ w (.refl w) d (.inr (.inr ⟨b, ks, vs, a, u, kv, vv, rfl, rfl, h1, h2, h4, r1, r2⟩))⟩
theorem je_var {i : Nat} {x : Str} {pos : Pos} (hN : X.N[i]? = some x) (hv : Vis X.env.scope x) (hd : (x == ("__debug__" : Str)) = false) (hcd : (x == ("__classdict__" : Str)) = false) : PE X (.Name x pos) (tM T W (getv i)) :=
  PE.imp (pe_var hN hv hd hcd) fun σ H Q h => by
    obtain ⟨sd, S, w, e, d, s, q⟩ := h
    subst e
    unfold getv at q
    cases hi : sd[i]? with
    | none => rw [hi] at q; exact q.elim
    | some sv =>
      rw [hi] at q
      obtain ⟨ov, ho, hsv⟩ := s.get hi
      cases sv with
      | un => exact q.elim
      | raw vv => exact q.elim
      | own ds => exact q.elim
      | dic b ks vs => exact q.elim
      | val dd =>
        obtain ⟨v, e, r⟩ := hsv
        subst e
        exact ⟨v, ho, q v w (.refl w) d r⟩
theorem je_fn {f : Nat} {a : Addr} {x : Str} {pos : Pos} (hg : Gl X x) (hm : X.mg x = some (.ref a)) (hf : T.fa f = some a) (hd : (x == ("__debug__" : Str)) = false) : PE X (.Name x pos) (tM T W fun _ => pure (.fn f)) :=
  PE.imp (pe_glob (v := .ref a) hg hm rfl hd) fun σ H Q h => tR_pure h fun _ _ => .fn hf

theorem ja_nil : PA X [] (tML T W fun _ => pure []) := PA.imp pa_nil fun σ H Q h => tR_pure h fun _ _ => .nil
theorem ja_cons {e : Expr} {es : List Expr} {f : List SV → M D} {g : List SV → M (List D)} (ha : PE X e (tM T W f)) (hr : PA X es (tML T W g)) (hs : starEach (e :: es) X.env = (false, eval e X.env) :: starEach es X.env) :
    PA X (e :: es) (tML T W fun sd => f sd >>= fun d => g sd >>= fun ds => pure (d :: ds)) :=
  PA.imp (pa_cons ha hr hs) fun σ H Q h => by
    refine tR_bnd (f := f) (k := fun sd d => g sd >>= fun ds => pure (d :: ds)) h fun sd S1 d v w1 d1 s1 r1 h1 => ?_
    refine ⟨sd, S1, w1, rfl, d1, s1, PG.bnd h1 fun ds S2 vs w2 e2 d2 r2 h2 => ?_⟩
    exact h2 (v :: vs) w2 (.refl w2) d2 (.cons (r1.ext e2) r2)
theorem je_tup {es : List Expr} {x1 pos} {g : List SV → M (List D)} (h : PA X es (tML T W g)) : PE X (.Tuple es x1 pos) (tM T W fun sd => g sd >>= mkTup) :=
  PE.imp (pe_tup h) fun σ H Q h => by
    refine tR_bnd (f := g) (k := fun _ ds => mkTup ds) h fun sd S1 ds vs w1 d1 s1 r1 h1 => ?_
    obtain ⟨d, hd, q⟩ := h1.fin d1
    simp only [Option.ite_none_right_eq_some, Option.some.injEq] at hd
    obtain ⟨hl, hd⟩ := hd
    subst hd
    refine ⟨by rw [← r1.length]; exact hl, fun p hp => ?_⟩
    obtain ⟨al, r⟩ := new_tup d1 hp r1
    exact q _ _ al r
theorem je_lst {es : List Expr} {pos} {g : List SV → M (List D)} (h : PA X es (tML T W g)) : PE X (.List es pos) (tM T W fun sd => g sd >>= mkLst) :=
  PE.imp (pe_lst h) fun σ H Q h => by
    refine tR_bnd (f := g) (k := fun _ ds => mkLst ds) h fun sd S1 ds vs w1 d1 s1 r1 h1 => ?_
    obtain ⟨d, hd, q⟩ := h1.fin d1
    simp only [Option.ite_none_right_eq_some, Option.some.injEq] at hd
    obtain ⟨hl, hd⟩ := hd
    subst hd
    refine ⟨by rw [← r1.length]; exact hl, fun p hp => ?_⟩
    obtain ⟨al, r⟩ := new_lst d1 hp r1
    exact q _ _ al r

theorem asB_ok {d : D} {S : List MO} {α β : Type} {R : Wo → α → β → Prop} {Q : β → Hp → Prop} {w : Wo} {W' : Value → Option Addr → Hp → Prop} {k : Bool → M α} (h : PG T W' R Q w ((asB d >>= k) S)) : ∃ b, d = .bl b ∧ PG T W' R Q w (k b S) := by
  cases d <;> first | exact h.elim | exact ⟨_, rfl, h⟩
theorem asI_ok {d : D} {S : List MO} {α β : Type} {R : Wo → α → β → Prop} {Q : β → Hp → Prop} {w : Wo} {W' : Value → Option Addr → Hp → Prop} {k : Int → M α} (h : PG T W' R Q w ((asI d >>= k) S)) : ∃ b, d = .int b ∧ PG T W' R Q w (k b S) := by
  cases d <;> first | exact h.elim | exact ⟨_, rfl, h⟩
/-- an expression's value as a test -/
theorem jt_val {e : Expr} {f : List SV → M D} (h : PE X e (tM T W f)) (he : ∀ whole, isTrue e X.env whole = (do let v ← whole; standAt e.pos; holding [v] (truthy v))) : PT X e (tMT T W fun sd => f sd >>= asB) :=
  PT.imp (pt_val h he) fun σ H Q h => by
    refine tR_bnd (f := f) (k := fun _ d => asB d) h fun sd S1 d v w1 d1 s1 r1 h1 => ?_
    have h1' : PG T (fun c d H' => W c d σ H') (fun _ a b => a = b) Q w1 ((asB d >>= pure) S1) := by
      rw [bind_ap]
      cases hd : asB d S1 <;> rw [hd] at h1 <;> exact h1
    obtain ⟨b, rfl, q⟩ := asB_ok h1'
    exact ⟨b, (Rep.bl_ r1), q b w1 (.refl w1) d1 rfl⟩
where
  Rep.bl_ {T : Tb} {w : Wo} {b : Bool} {v : V} (r : Rep T w.lam w.G (.bl b) v) : v = .bl b := by cases r; rfl
theorem jt_and1 {a : Expr} {f : List SV → M Bool} {pos} (ha : PT X a (tMT T W f)) : PW X (.BoolOp .And [a] pos) (tMT T W f) := pw_and1 ha
theorem jt_or1 {a : Expr} {f : List SV → M Bool} {pos} (ha : PT X a (tMT T W f)) : PW X (.BoolOp .Or [a] pos) (tMT T W f) := pw_or1 ha
theorem jt_and {a b : Expr} {rest : List Expr} {f g : List SV → M Bool} {pos} (ha : PT X a (tMT T W f)) (hb : PW X (.BoolOp .And (b :: rest) pos) (tMT T W g)) :
    PW X (.BoolOp .And (a :: b :: rest) pos) (tMT T W fun sd => f sd >>= fun c => if c then g sd else pure false) :=
  PW.imp (pw_and ha hb) fun σ H Q h => by
    refine tR_bnd (f := f) (k := fun sd c => if c then g sd else pure false) h fun sd S1 d v w1 d1 s1 r1 h1 => ?_
    subst r1
    cases d
    · exact h1 false w1 (.refl w1) d1 rfl
    · exact ⟨sd, S1, w1, rfl, d1, s1, h1⟩
theorem jt_or {a b : Expr} {rest : List Expr} {f g : List SV → M Bool} {pos} (ha : PT X a (tMT T W f)) (hb : PW X (.BoolOp .Or (b :: rest) pos) (tMT T W g)) :
    PW X (.BoolOp .Or (a :: b :: rest) pos) (tMT T W fun sd => f sd >>= fun c => if c then pure true else g sd) :=
  PW.imp (pw_or ha hb) fun σ H Q h => by
    refine tR_bnd (f := f) (k := fun sd c => if c then pure true else g sd) h fun sd S1 d v w1 d1 s1 r1 h1 => ?_
    subst r1
    cases d
    · exact ⟨sd, S1, w1, rfl, d1, s1, h1⟩
    · exact h1 true w1 (.refl w1) d1 rfl
theorem jt_not {a : Expr} {f : List SV → M Bool} {pos} (ha : PT X a (tMT T W f)) : PT X (.UnaryOp .Not a pos) (tMT T W fun sd => f sd >>= fun c => pure (!c)) :=
  PT.imp (pt_not ha) fun σ H Q h => by
    refine tR_bnd (f := f) (k := fun sd c => pure (!c)) h fun sd S1 d v w1 d1 s1 r1 h1 => ?_
    subst r1
    exact h1 _ w1 (.refl w1) d1 rfl
theorem je_and1 {a : Expr} {f : List SV → M D} {op pos} (ha : PE X a (tM T W f)) : PE X (.BoolOp op [a] pos) (tM T W f) := pe_one ha
theorem je_and {a b : Expr} {rest : List Expr} {f g : List SV → M D} {pos} (ha : PE X a (tM T W f)) (hb : PE X (.BoolOp .And (b :: rest) pos) (tM T W g)) :
    PE X (.BoolOp .And (a :: b :: rest) pos) (tM T W fun sd => f sd >>= fun d => asB d >>= fun c => if c then g sd else pure (D.bl false)) :=
  PE.imp (pe_and ha hb) fun σ H Q h => by
    refine tR_bnd (f := f) (k := fun sd d => asB d >>= fun c => if c then g sd else pure (D.bl false)) h fun sd S1 d v w1 d1 s1 r1 h1 => ?_
    obtain ⟨b, rfl, q⟩ := asB_ok h1
    cases r1
    refine ⟨b, rfl, ?_⟩
    cases b
    · exact q _ w1 (.refl w1) d1 (.bl _)
    · exact ⟨sd, S1, w1, rfl, d1, s1, q⟩
theorem je_or {a b : Expr} {rest : List Expr} {f g : List SV → M D} {pos} (ha : PE X a (tM T W f)) (hb : PE X (.BoolOp .Or (b :: rest) pos) (tM T W g)) :
    PE X (.BoolOp .Or (a :: b :: rest) pos) (tM T W fun sd => f sd >>= fun d => asB d >>= fun c => if c then pure (D.bl true) else g sd) :=
  PE.imp (pe_or ha hb) fun σ H Q h => by
    refine tR_bnd (f := f) (k := fun sd d => asB d >>= fun c => if c then pure (D.bl true) else g sd) h fun sd S1 d v w1 d1 s1 r1 h1 => ?_
    obtain ⟨b, rfl, q⟩ := asB_ok h1
    cases r1
    refine ⟨b, rfl, ?_⟩
    cases b
    · exact ⟨sd, S1, w1, rfl, d1, s1, q⟩
    · exact q _ w1 (.refl w1) d1 (.bl _)
theorem je_not {a : Expr} {f : List SV → M D} {pos} (ha : PE X a (tM T W f)) : PE X (.UnaryOp .Not a pos) (tM T W fun sd => f sd >>= notM) :=
  PE.imp (pe_not ha) fun σ H Q h => by
    refine tR_bnd (f := f) (k := fun _ d => notM d) h fun sd S1 d v w1 d1 s1 r1 h1 => ?_
    obtain ⟨b, rfl, q⟩ := asB_ok h1
    cases r1
    exact ⟨b, rfl, q _ w1 (.refl w1) d1 (.bl _)⟩
theorem je_ite {c a b : Expr} {h : List SV → M Bool} {f g : List SV → M D} {pos} (hc : PT X c (tMT T W h)) (ha : PE X a (tM T W f)) (hb : PE X b (tM T W g)) :
    PE X (.IfExp c a b pos) (tM T W fun sd => h sd >>= fun c => if c then f sd else g sd) :=
  PE.imp (pe_ifExp hc ha hb) fun σ H Q h => by
    refine tR_bnd (k := fun sd c => if c then f sd else g sd) h fun sd S1 d v w1 d1 s1 r1 h1 => ?_
    subst r1
    cases d
    · exact ⟨sd, S1, w1, rfl, d1, s1, h1⟩
    · exact ⟨sd, S1, w1, rfl, d1, s1, h1⟩
theorem je_neg {a : Expr} {f : List SV → M D} {pos} (ha : PE X a (tM T W f)) : PE X (.UnaryOp .USub a pos) (tM T W fun sd => f sd >>= negM) :=
  PE.imp (pe_un un_neg ha) fun σ H Q h => by
    refine tR_bnd (f := f) (k := fun _ d => negM d) h fun sd S1 d v w1 d1 s1 r1 h1 => ?_
    obtain ⟨b, rfl, q⟩ := asI_ok h1
    cases r1
    exact ⟨b, rfl, q _ w1 (.refl w1) d1 (.int _)⟩
section
variable {a b c : Expr} {f g h : List SV → M D} {pos : Pos}
theorem je_cmp {op : CmpOp} {r : D → D → Option D} (ho : OpR X (compareOp op) (rD T r)) (ha : PE X a (tMB T W f)) (hb : PE X b (tMB T W g)) (hm : behindInMarks op b = false) :
    PE X (.Compare a [op] [b] pos) (tM T W fun sd => f sd >>= fun x => g sd >>= fun y => M.lift (r x y)) := by
  refine PE.imp (pe_cmpR ho ha hb hm) fun σ H Q h => ?_
  refine tR_bnd (k := fun sd x => g sd >>= fun y => M.lift _) h fun sd S1 dx x w1 d1 s1 r1 h1 => ?_
  refine ⟨sd, S1, w1, rfl, d1, s1, PG.bnd h1 fun dy S2 y w2 e2 d2 r2 h2 => ?_⟩
  obtain ⟨d, hd, q⟩ := h2.fin d2
  exact ⟨w2, S2, dx, dy, d, rfl, d2, r1.ext e2, r2, hd, fun v w' al r => q v w' al r⟩
theorem jt_cmp {op : CmpOp} {r : D → D → Option D} (ho : OpR X (compareOp op) (rD T r)) (ha : PE X a (tMB T W f)) (hb : PE X b (tMB T W g)) (hm : behindInMarks op b = false) :
    PT X (.Compare a [op] [b] pos) (tMT T W fun sd => (f sd >>= fun x => g sd >>= fun y => M.lift (r x y)) >>= asB) := by
  refine PT.imp (pt_cmpR ho ha hb hm) fun σ H Q h => ?_
  simp only [bind_as] at h
  refine tR_bnd (f := f) (k := fun sd x => g sd >>= fun y => M.lift (r x y) >>= asB) h fun sd S1 dx x w1 d1 s1 r1 h1 => ?_
  refine ⟨sd, S1, w1, rfl, d1, s1, PG.bnd h1 fun dy S2 y w2 e2 d2 r2 h2 => ?_⟩
  cases hr : r dx dy with
  | none => rw [hr] at h2; exact h2.elim
  | some d =>
    rw [hr] at h2
    cases d <;> first | exact h2.elim | skip
    rename_i k
    exact ⟨w2, S2, dx, dy, .bl k, rfl, d2, r1.ext e2, r2, hr, fun v w' al rv => by
      cases rv
      exact ⟨k, rfl, h2 k w' al.ext (d2.alc al) rfl⟩⟩
/-- a < b < c: both answers True or False -/
def chainD (r r' : D → D → Option D) (x y : D) (m : M D) : M D := M.lift (r x y) >>= fun z => asB z >>= fun k => if k then m >>= fun t => M.lift (r' y t) else pure (.bl false)
theorem je_chain {op op' : CmpOp} {r r' : D → D → Option D} (ho : OpR X (compareOp op) (rD T r)) (ho' : OpR X (compareOp op') (rD T r')) (ha : PE X a (tMB T W f)) (hb : PE X b (tMB T W g)) (hc : PE X c (tMB T W h)) (hm : lastMarks [op, op'] [b, c] = false) :
    PE X (.Compare a [op, op'] [b, c] pos) (tM T W fun sd => f sd >>= fun x => g sd >>= fun y => chainD r r' x y (h sd)) := by
  refine PE.imp (pe_chain ho ho' ha hb hc hm) fun σ H Q hh => ?_
  refine tR_bnd (f := f) (k := fun sd x => g sd >>= fun y => chainD r r' x y (h sd)) hh fun sd S1 dx x w1 d1 s1 r1 h1 => ?_
  refine ⟨sd, S1, w1, rfl, d1, s1, PG.bnd h1 fun dy S2 y w2 e2 d2 r2 h2 => ?_⟩
  unfold chainD at h2
  cases hr : r dx dy with
  | none => rw [hr] at h2; exact h2.elim
  | some d =>
    rw [hr] at h2
    cases d <;> first | exact h2.elim | skip
    rename_i k
    refine ⟨w2, S2, dx, dy, .bl k, rfl, d2, r1.ext e2, r2, hr, fun v w' al rv => ?_⟩
    cases rv
    refine ⟨k, rfl, ?_⟩
    have h3 : PG T (fun c d H' => W c d σ H') (RepV T) Q w2 ((if k then h sd >>= fun t => M.lift (r' dy t) else pure (.bl false)) S2) := h2
    cases k
    · exact h3 _ w' al.ext (d2.alc al) (.bl _)
    · refine ⟨sd, S2, w', rfl, d2.alc al, (s1.ext e2).ext al.ext, PG.bnd (h3.shift al.ext) fun dz S3 z w3 e3 d3 r3 h4 => ?_⟩
      obtain ⟨d, hd, q⟩ := h4.fin d3
      exact ⟨w3, S3, dy, dz, d, rfl, d3, (r2.ext al.ext).ext e3, r3, hd, fun v w' al r => q v w' al r⟩
end
end
end Q
set_option Elab.async false
set_option linter.all false
set_option maxRecDepth 100000
set_option maxHeartbeats 4000000
namespace Q
open PySem PySem.Spec PyProof.Rows L2

abbrev RepBL (T : Tb) : Wo → List D → List V → Prop := fun w ds vs => Paired (RepB T w) ds vs
abbrev tMBL (T : Tb) (W : WX) (f : List SV → M (List D)) : TA := tR T W (RepBL T) f
theorem RepBL.ext {T : Tb} {w w' : Wo} (e : Ext w w') {ds : List D} {vs : List V} (r : RepBL T w ds vs) : RepBL T w' ds vs := paired_imp (fun _ _ h => h.ext e) r
/-- a[b] -/
def ixD (S : List MO) : D → D → Option D
  | .lst ds, .int i => atI ds i
  | .tup ds, .int i => atI ds i
  | .str z, .int i => if z.length ≤ sizeLine then (atI z.cps.toList i).map fun c => .str ⟨#[c]⟩ else none
  | .loc n, .int i => match S[n]? with
    | some (.lst ds) => atI ds i
    | _ => none
  | .dct b ks vs, k => if keyOk b k then dLook ks vs k else none
  | _, _ => none
def M.liftS {α : Type} (o : List MO → Option α) : M α := fun S => M.lift (o S) S
def rDS (T : Tb) (g : List MO → D → D → Option D) : R2 := fun x y H Q => ∃ w S dx dy d, w.H = H ∧ Wd T w S ∧ RepB T w dx x ∧ RepB T w dy y ∧ g S dx dy = some d ∧ ∀ v w', Alc w w' → Rep T w'.lam w'.G d v → Q v w'.H
theorem RepA.atI {T : Tb} {lam : List Addr} {G : Hp} {ds : List D} {vs : List V} {i : Int} {d : D} (r : RepA T lam G ds vs) (h : L2.atI ds i = some d) : ∃ v, L2.atI vs i = some v ∧ Rep T lam G d v := by
  unfold L2.atI at h ⊢
  rw [← r.length]
  cases e : ixN ds.length i with
  | none => rw [e] at h; cases h
  | some j =>
    rw [e] at h
    exact r.getD (i := j) h
theorem RepB.loc_ {T : Tb} {w : Wo} {S : List MO} (d : Wd T w S) {n : Nat} {x : V} (h : RepB T w (.loc n) x) : ∃ a, x = .ref a ∧ w.lam[n]? = some a := by
  rcases h with h | ⟨ds', a, vs, e, e2, h3, h4, h5⟩ | ⟨_, _, _, _, _, _, _, e, _⟩
  · cases h with
    | loc h1 => exact ⟨_, rfl, h1⟩
  · cases e
  · cases e
theorem ix_D {T : Tb} {X : Cx} (hu : X.A.units + 65 < cLine) (k : Lk T X) : IxR X (rDS T ixD) := by
  intro value slice pins s σ H x y v u Q I rx ry h hs
  obtain ⟨w, S, dx, dy, d, rfl, wd, hx, hy, hd, q⟩ := h
  by_cases isd : ∃ b ks vs, dx = .dct b ks vs
  · obtain ⟨b, ks, vs, rfl⟩ := isd
    simp only [ixD, Option.ite_none_right_eq_some] at hd
    obtain ⟨h1, hd⟩ := hd
    obtain ⟨a, rfl, g⟩ := dicRd_of wd hx
    cases (show v = Value.ref a from rx)
    exact tail_any (dic_type k wd I g).1 PySem.F.slot_dict_getitem.lookup (dic_get k (by omega) wd I g h1 hy ry hd fun z r s' I' hr rv => ⟨z, _, I', rv, q z w (.refl wd) hr⟩) hs
  have isd' : ∀ b ks vs, dx ≠ .dct b ks vs := fun b ks vs e => isd ⟨b, ks, vs, e⟩
  cases dx <;> first | exact absurd rfl (isd' _ _ _) | skip
  all_goals (cases dy <;> simp only [ixD, reduceCtorEq] at hd)
  case lst.int ds i =>
    obtain ⟨a, vs, e1, h1, r1⟩ := hx.lst_ wd
    obtain ⟨z, hz, r⟩ := r1.atI hd
    exact ix_list value slice pins s σ _ x y v u Q I rx ry ⟨a, vs, i, z, e1, hy.int_, .inl h1, hz, q z w (.refl wd) r⟩ hs
  case tup.int ds i =>
    obtain ⟨a, vs, e1, h1, r1⟩ := hx.tup_ wd
    obtain ⟨z, hz, r⟩ := r1.atI hd
    exact ix_tup value slice pins s σ _ x y v u Q I rx ry ⟨a, vs, i, z, e1, hy.int_, by rw [k.K]; exact h1, hz, q z w (.refl wd) r⟩ hs
  case str.int z i =>
    simp only [Option.ite_none_right_eq_some, Option.map_eq_some_iff] at hd
    obtain ⟨hl, c, hc, hd⟩ := hd
    subst hd
    exact ix_str value slice pins s σ _ x y v u Q I rx ry ⟨z, i, c, hx.str_, hy.int_, hl, hc, q _ w (.refl wd) (.str _)⟩ hs
  case loc.int n i =>
    cases hS : S[n]? with
    | none => rw [hS] at hd; cases hd
    | some m =>
      rw [hS] at hd
      cases m with
      | ins c fs => cases hd
      | lst ds =>
        obtain ⟨a, e1, ha⟩ := hx.loc_ wd
        obtain ⟨vs, h1, r1⟩ := wd.obj n a _ ha hS
        obtain ⟨z, hz, r⟩ := r1.atI hd
        exact ix_list value slice pins s σ _ x y v u Q I rx ry ⟨a, vs, i, z, e1, hy.int_, .inl (.inl h1), hz, q z w (.refl wd) r⟩ hs
/-- a[lo:hi] -/
def cutD (xs : List D) (lo hi : Option Int) : List D := (xs.drop (HT.sIx xs.length 0 lo)).take (HT.sIx xs.length xs.length hi - HT.sIx xs.length 0 lo)
def slD : D → Option Int → Option Int → Option D
  | .lst ds, lo, hi => some (.lst (cutD ds lo hi))
  | .tup ds, lo, hi => some (.tup (cutD ds lo hi))
  | .str z, lo, hi => if z.length ≤ sizeLine then some (.str (cutS z lo hi)) else none
  | _, _, _ => none
theorem RepA.cut {T : Tb} {lam : List Addr} {G : Hp} {ds : List D} {vs : List V} (lo hi : Option Int) (r : RepA T lam G ds vs) : RepA T lam G (cutD ds lo hi) (cutV vs lo hi) := by
  unfold cutD cutV
  rw [r.length]
  exact (r.drop _).take _
def rSD (T : Tb) : V → Option Int → Option Int → Hp → VK → Prop := fun x lo hi H Q => ∃ w S dx d, w.H = H ∧ Wd T w S ∧ RepB T w dx x ∧ slD dx lo hi = some d ∧ ∀ v w', Alc w w' → Rep T w'.lam w'.G d v → Q v w'.H
theorem sl_D {T : Tb} {X : Cx} (k : Lk T X) : SlR X (rSD T) := by
  intro pins s σ H x v vl vu lo hi sl Q I rx hs pl pu h
  obtain ⟨w, S, dx, d, rfl, wd, hx, hd, q⟩ := h
  cases dx <;> simp only [slD, reduceCtorEq, Option.some.injEq, Option.ite_none_right_eq_some] at hd
  case lst ds =>
    subst hd
    obtain ⟨a, vs, e1, h1, r1⟩ := hx.lst_ wd
    refine sl_list pins s σ _ x v vl vu lo hi sl Q I rx hs pl pu ⟨a, vs, e1, .inl h1, fun p hp => ?_⟩
    obtain ⟨al, r⟩ := new_lst wd hp (r1.cut lo hi)
    exact q _ _ al r
  case tup ds =>
    subst hd
    obtain ⟨a, vs, e1, h1, r1⟩ := hx.tup_ wd
    refine sl_tupA pins s σ _ x v vl vu lo hi sl Q I rx hs pl pu ⟨a, vs, e1, by rw [k.K]; exact h1, fun z => ?_, fun _ p hp => ?_⟩
    · have e : cutD ds lo hi = ds := by
        unfold cutD
        rw [← r1.length] at z
        rw [z.1, z.2]
        simp
      rw [e] at q
      subst e1
      refine q _ w (.refl wd) ?_
      rcases hx with hx | ⟨_, _, _, z, _⟩ | ⟨_, _, _, _, _, _, _, z, _⟩
      · exact hx
      · cases z
      · cases z
    · obtain ⟨al, r⟩ := new_tup wd hp (r1.cut lo hi)
      exact q _ _ al r
  case str z =>
    obtain ⟨hl, hd⟩ := hd
    subst hd
    exact sl_str pins s σ _ x v vl vu lo hi sl Q I rx hs pl pu ⟨z, hx.str_, hl, q _ w (.refl wd) (.str _)⟩
section
variable {X : Cx} {T : Tb} {W : WX} {a b : Expr} {pos : Pos} {f g : List SV → M D}
theorem je_ix (hu : X.A.units + 65 < cLine) (k : Lk T X) (ha : PE X a (tMB T W f)) (hb : PE X b (tMB T W g)) (hs : PlainIx b) : PE X (.Subscript a b pos) (tM T W fun sd => f sd >>= fun x => g sd >>= fun y => M.liftS fun S => ixD S x y) := by
  refine PE.imp (pe_ix (ix_D hu k) ha hb hs) fun σ H Q h => ?_
  refine tR_bnd (f := f) (k := fun sd x => g sd >>= fun y => M.liftS fun S => ixD S x y) h fun sd S1 dx x w1 d1 s1 r1 h1 => ?_
  refine ⟨sd, S1, w1, rfl, d1, s1, PG.bnd h1 fun dy S2 y w2 e2 d2 r2 h2 => ?_⟩
  obtain ⟨d, hd, q⟩ := PG.fin (o := ixD S2 dx dy) h2 d2
  exact ⟨w2, S2, dx, dy, d, rfl, d2, r1.ext e2, r2, hd, fun v w' al r => q v w' al r⟩
/-- a part of a slice -/
def partO (f : Option (List SV → M D)) : List SV → M (Option Int) := fun sd => match f with
  | none => pure none
  | some f => f sd >>= fun d => asI d >>= fun i => pure (some i)
abbrev tMO (T : Tb) (W : WX) (f : List SV → M (Option Int)) : TO := tR T W (fun _ a b => a = b) f
theorem PO.imp {e : Option Expr} {t t' : TO} (h : PO X e t) (hi : ∀ σ H Q, t' σ H Q → t σ H Q) : PO X e t' := ⟨fun pins s σ H Q I q => h.run pins s σ H Q I (hi σ H Q q)⟩
theorem jo_none : PO X none (tMO T W (partO none)) := PO.imp po_none fun σ H Q h => tR_pure h fun _ _ => rfl
theorem jo_some {e : Expr} (h : PE X e (tM T W f)) : PO X (some e) (tMO T W (partO (some f))) := PO.imp (po_some h) fun σ H Q h => by
  refine tR_bnd (f := f) (k := fun _ d => asI d >>= fun i => pure (some i)) h fun sd S1 d v w1 d1 s1 r1 h1 => ?_
  obtain ⟨b, rfl, q⟩ := asI_ok h1
  cases r1
  exact ⟨b, rfl, q _ w1 (.refl w1) d1 rfl⟩
theorem je_sl (k : Lk T X) {lo hi : Option Expr} {l h : List SV → M (Option Int)} {p2 : Pos} (ha : PE X a (tMB T W f)) (hl : PO X lo (tMO T W l)) (hh : PO X hi (tMO T W h)) :
    PE X (.Subscript a (.Slice lo hi none p2) pos) (tM T W fun sd => f sd >>= fun x => l sd >>= fun i => h sd >>= fun j => M.lift (slD x i j)) := by
  refine PE.imp (pe_slice (sl_D k) ha hl hh) fun σ H Q q => ?_
  refine tR_bnd (f := f) (k := fun sd x => l sd >>= fun i => h sd >>= fun j => M.lift (slD x i j)) q fun sd S1 dx x w1 d1 s1 r1 h1 => ?_
  refine ⟨sd, S1, w1, rfl, d1, s1, PG.bnd h1 fun di S2 i w2 e2 d2 r2 h2 => ?_⟩
  subst r2
  refine ⟨sd, S2, w2, rfl, d2, s1.ext e2, PG.bnd h2 fun dj S3 j w3 e3 d3 r3 h3 => ?_⟩
  subst r3
  obtain ⟨d, hd, q⟩ := h3.fin d3
  exact ⟨w3, S3, dx, d, rfl, d3, (r1.ext e2).ext e3, hd, fun v w' al r => q v w' al r⟩
theorem jab_nil : PA X [] (tMBL T W fun _ => pure []) := PA.imp pa_nil fun σ H Q h => tR_pure h fun _ _ => .nil
theorem jab_cons {e : Expr} {es : List Expr} {f : List SV → M D} {g : List SV → M (List D)} (ha : PE X e (tMB T W f)) (hr : PA X es (tMBL T W g)) (hs : starEach (e :: es) X.env = (false, eval e X.env) :: starEach es X.env) :
    PA X (e :: es) (tMBL T W fun sd => f sd >>= fun d => g sd >>= fun ds => pure (d :: ds)) :=
  PA.imp (pa_cons ha hr hs) fun σ H Q h => by
    refine tR_bnd (f := f) (k := fun sd d => g sd >>= fun ds => pure (d :: ds)) h fun sd S1 d v w1 d1 s1 r1 h1 => ?_
    refine ⟨sd, S1, w1, rfl, d1, s1, PG.bnd h1 fun ds S2 vs w2 e2 d2 r2 h2 => ?_⟩
    exact h2 (v :: vs) w2 (.refl w2) d2 (.cons (r1.ext e2) r2)
/-- a built-in by values over data -/
def rC (T : Tb) (g : List D → Option D) : List V → Hp → VK → Prop := fun xs H Q => ∃ w S ds d, w.H = H ∧ Wd T w S ∧ RepBL T w ds xs ∧ g ds = some d ∧ ∀ v w', Alc w w' → Rep T w'.lam w'.G d v → Q v w'.H
theorem je_bi {e : Expr} {es : List Expr} {x : Str} {id : String} {p : Pos} {h : List SV → M (List D)} {r : List D → Option D} (hc : CallR X (.builtin id) (rC T r)) (hg : Gl X x) (hm : X.mg x = none) (hv : bootBuiltins x = some (.builtin id)) (ha : PA X (e :: es) (tMBL T W h)) (hn : x ≠ "__name__") (hdb : (x == ("__debug__" : Str)) = false)
    (he : starEach (e :: es) X.env = (false, eval e X.env) :: starEach es X.env) (hpl : (backTo pos (starEach es X.env)).any (·.1) = false) : PE X (.Call (.Name x p) (e :: es) [] pos) (tM T W fun sd => h sd >>= fun ds => M.lift (r ds)) := by
  refine PE.imp (pe_callB hc hg hm hv ha hn hdb he hpl) fun σ H Q q => ?_
  refine tR_bnd (f := h) (k := fun _ ds => M.lift (r ds)) q fun sd S1 ds vs w1 d1 s1 r1 h1 => ?_
  obtain ⟨d, hd, q⟩ := h1.fin d1
  exact ⟨w1, S1, ds, d, rfl, d1, r1, hd, fun v w' al r => q v w' al r⟩
theorem je_ty {e : Expr} {es : List Expr} {x : Str} {id : String} {p : Pos} {h : List SV → M (List D)} {r : List D → Option D} (hc : CallR X (.type id) (rC T r)) (hg : Gl X x) (hm : X.mg x = none) (hv : bootBuiltins x = some (.type id)) (ha : PA X (e :: es) (tMBL T W h)) (hn : x ≠ "__name__") (hdb : (x == ("__debug__" : Str)) = false)
    (he : starEach (e :: es) X.env = (false, eval e X.env) :: starEach es X.env) (hpl : (backTo pos (starEach es X.env)).any (·.1) = false) : PE X (.Call (.Name x p) (e :: es) [] pos) (tM T W fun sd => h sd >>= fun ds => M.lift (r ds)) := by
  refine PE.imp (pe_callTy hc hg hm hv ha hn hdb he hpl) fun σ H Q q => ?_
  refine tR_bnd (f := h) (k := fun _ ds => M.lift (r ds)) q fun sd S1 ds vs w1 d1 s1 r1 h1 => ?_
  obtain ⟨d, hd, q⟩ := h1.fin d1
  exact ⟨w1, S1, ds, d, rfl, d1, r1, hd, fun v w' al r => q v w' al r⟩
end
end Q
set_option Elab.async false
set_option linter.all false
set_option maxRecDepth 100000
set_option maxHeartbeats 4000000
namespace Q
open PySem PySem.Spec PyProof.Rows L2

def lenD : List D → Option D
  | [.lst ds] => some (.int ds.length)
  | [.tup ds] => some (.int ds.length)
  | [.str z] => if z.length ≤ sizeLine then some (.int z.length) else none
  | [.dct _ ks _] => some (.int ks.length)
  | _ => none
def bools : List D → Option (List Bool)
  | [] => some []
  | .bl b :: r => (bools r).map (b :: ·)
  | _ :: _ => none
def allD : List D → Option D
  | [.lst ds] => (bools ds).map fun bs => .bl (bs.all id)
  | _ => none
def anyD : List D → Option D
  | [.lst ds] => (bools ds).map fun bs => .bl (bs.any id)
  | _ => none
def min2D : List D → Option D
  | [.int i, .int j] => some (.int (if j < i then j else i))
  | _ => none
def max2D : List D → Option D
  | [.int i, .int j] => some (.int (if j > i then j else i))
  | _ => none
def tupleD : List D → Option D
  | [.lst ds] => some (.tup ds)
  | [.tup ds] => some (.tup ds)
  | _ => none
def listD : List D → Option D
  | [.lst ds] => some (.lst ds)
  | [.tup ds] => some (.lst ds)
  | _ => none
def intD : List D → Option D
  | [.int i] => some (.int i)
  | _ => none
def strD : List D → Option D
  | [.int i] => if i.natAbs.log2 < 1920 then some (.str (toString i)) else none
  | _ => none
/-- a value's class -/
def tyD : D → Option String
  | .non => some "NoneType"
  | .bl _ => some "bool"
  | .int _ => some "int"
  | .str _ => some "str"
  | .lst _ => some "list"
  | .tup _ => some "tuple"
  | _ => none
section
variable {T : Tb} {X : Cx}
theorem pr1 {F : D → V → Prop} {d : D} {xs : List V} (h : Paired F [d] xs) : ∃ x, xs = [x] ∧ F d x := by
  cases h with
  | cons a r => cases r; exact ⟨_, rfl, a⟩
theorem pr2 {F : D → V → Prop} {d e : D} {xs : List V} (h : Paired F [d, e] xs) : ∃ x y, xs = [x, y] ∧ F d x ∧ F e y := by
  cases h with
  | cons a r =>
    obtain ⟨y, rfl, b⟩ := pr1 r
    exact ⟨_, _, rfl, a, b⟩
theorem len_D (k : Lk T X) : CallR X (.builtin "len") (rC T lenD) := by
  intro pins s σ H xs us Q I r h
  obtain ⟨w, S, ds, d, rfl, wd, hx, hd, q⟩ := h
  match ds, hd, hx with
  | [.lst ds], hd, hx =>
    obtain ⟨x, rfl, hz⟩ := pr1 hx
    simp only [lenD, Option.some.injEq] at hd
    subst hd
    obtain ⟨a, vs, e1, h1, r1⟩ := hz.lst_ wd
    subst e1
    refine call_len_seq pins s σ _ _ us Q I r ⟨a, vs, rfl, .inl (.inl h1), ?_⟩
    rw [← r1.length]
    exact q _ w (.refl wd) (.int _)
  | [.tup ds], hd, hx =>
    obtain ⟨x, rfl, hz⟩ := pr1 hx
    simp only [lenD, Option.some.injEq] at hd
    subst hd
    obtain ⟨a, vs, e1, h1, r1⟩ := hz.tup_ wd
    subst e1
    refine call_len_seq pins s σ _ _ us Q I r ⟨a, vs, rfl, .inr (by rw [k.K]; exact h1), ?_⟩
    rw [← r1.length]
    exact q _ w (.refl wd) (.int _)
  | [.dct b ks vs], hd, hx =>
    obtain ⟨x, rfl, hz⟩ := pr1 hx
    simp only [lenD, Option.some.injEq] at hd
    subst hd
    obtain ⟨a, rfl, g⟩ := dicRd_of wd hz
    obtain rfl := Vals.ref1 r
    exact dic_len k wd I g fun t s' I' => ⟨.int ks.length, _, I', ⟨t, rfl⟩, q _ w (.refl wd) (.int _)⟩
  | [.str z], hd, hx =>
    obtain ⟨x, rfl, hz⟩ := pr1 hx
    simp only [lenD, Option.ite_none_right_eq_some, Option.some.injEq] at hd
    obtain ⟨hl, hd⟩ := hd
    subst hd
    have e1 := hz.str_
    subst e1
    exact call_len pins s σ _ _ us Q I r ⟨.str z, z.length, rfl, ⟨hl, rfl⟩, q _ w (.refl wd) (.int _)⟩
theorem bools_rep {lam : List Addr} {G : Hp} : ∀ {ds : List D} {bs : List Bool} {vs : List V}, bools ds = some bs → RepA T lam G ds vs → vs = bs.map V.bl
  | [], bs, vs, h, r => by
    cases r
    simp only [bools, Option.some.injEq] at h
    subst h; rfl
  | d :: ds, bs, vs, h, r => by
    cases r with
    | cons h1 h2 =>
      cases h1 <;> simp only [bools, reduceCtorEq, Option.map_eq_some_iff] at h
      obtain ⟨bs', hb, e⟩ := h
      subst e
      rw [bools_rep hb h2]
      rfl
theorem all_D (k : Lk T X) (hc : X.calm = true) : CallR X (.builtin "all") (rC T allD) := by
  intro pins s σ H xs us Q I r h
  obtain ⟨w, S, ds, d, rfl, wd, hx, hd, q⟩ := h
  match ds, hd, hx with
  | [.lst ds], hd, hx =>
    obtain ⟨x, rfl, hz⟩ := pr1 hx
    simp only [allD, Option.map_eq_some_iff] at hd
    obtain ⟨bs, hb, hd⟩ := hd
    subst hd
    obtain ⟨a, vs, e1, h1, r1⟩ := hz.lst_ wd
    subst e1
    have e2 := bools_rep hb r1
    subst e2
    exact cr_all hc pins s σ _ _ us Q I r ⟨a, bs, rfl, .inl h1, q _ w (.refl wd) (.bl _)⟩
theorem any_D (k : Lk T X) (hc : X.calm = true) : CallR X (.builtin "any") (rC T anyD) := by
  intro pins s σ H xs us Q I r h
  obtain ⟨w, S, ds, d, rfl, wd, hx, hd, q⟩ := h
  match ds, hd, hx with
  | [.lst ds], hd, hx =>
    obtain ⟨x, rfl, hz⟩ := pr1 hx
    simp only [anyD, Option.map_eq_some_iff] at hd
    obtain ⟨bs, hb, hd⟩ := hd
    subst hd
    obtain ⟨a, vs, e1, h1, r1⟩ := hz.lst_ wd
    subst e1
    have e2 := bools_rep hb r1
    subst e2
    exact cr_any hc pins s σ _ _ us Q I r ⟨a, bs, rfl, .inl h1, q _ w (.refl wd) (.bl _)⟩
theorem min2_D (k : Lk T X) (hc : X.calm = true) : CallR X (.builtin "min") (rC T min2D) := by
  intro pins s σ H xs us Q I r h
  obtain ⟨w, S, ds, d, rfl, wd, hx, hd, q⟩ := h
  match ds, hd, hx with
  | [.int i, .int j], hd, hx =>
    obtain ⟨x, y, rfl, hx, hy⟩ := pr2 hx
    simp only [min2D, Option.some.injEq] at hd
    subst hd
    rw [hx.int_, hy.int_] at r
    exact call_min2 hc pins s σ _ _ us Q I r ⟨i, j, rfl, q _ w (.refl wd) (.int _)⟩
theorem max2_D (k : Lk T X) (hc : X.calm = true) : CallR X (.builtin "max") (rC T max2D) := by
  intro pins s σ H xs us Q I r h
  obtain ⟨w, S, ds, d, rfl, wd, hx, hd, q⟩ := h
  match ds, hd, hx with
  | [.int i, .int j], hd, hx =>
    obtain ⟨x, y, rfl, hx, hy⟩ := pr2 hx
    simp only [max2D, Option.some.injEq] at hd
    subst hd
    rw [hx.int_, hy.int_] at r
    exact call_max2 hc pins s σ _ _ us Q I r ⟨i, j, rfl, q _ w (.refl wd) (.int _)⟩
theorem tuple_D (k : Lk T X) : CallR X (.type "tuple") (rC T tupleD) := by
  intro pins s σ H xs us Q I r h
  obtain ⟨w, S, ds, d, rfl, wd, hx, hd, q⟩ := h
  match ds, hd, hx with
  | [.lst ds], hd, hx =>
    obtain ⟨x, rfl, hz⟩ := pr1 hx
    simp only [tupleD, Option.some.injEq] at hd
    subst hd
    obtain ⟨a, vs, e1, h1, r1⟩ := hz.lst_ wd
    subst e1
    refine call_tuple_of pins s σ _ _ us Q I r ⟨a, vs, rfl, .inl ⟨.inl h1, fun l hl => ?_⟩⟩
    obtain ⟨al, rr⟩ := new_tup wd hl r1
    exact q _ _ al rr
  | [.tup ds], hd, hx =>
    obtain ⟨x, rfl, hz⟩ := pr1 hx
    simp only [tupleD, Option.some.injEq] at hd
    subst hd
    obtain ⟨a, vs, e1, h1, r1⟩ := hz.tup_ wd
    subst e1
    refine call_tuple_of pins s σ _ _ us Q I r ⟨a, vs, rfl, .inr ⟨by rw [k.K]; exact h1, q _ w (.refl wd) ?_⟩⟩
    rcases hz with hx | ⟨_, _, _, z, _⟩ | ⟨_, _, _, _, _, _, _, z, _⟩
    · exact hx
    · cases z
    · cases z
theorem list_D (k : Lk T X) : CallR X (.type "list") (rC T listD) := by
  intro pins s σ H xs us Q I r h
  obtain ⟨w, S, ds, d, rfl, wd, hx, hd, q⟩ := h
  match ds, hd, hx with
  | [.lst ds], hd, hx =>
    obtain ⟨x, rfl, hz⟩ := pr1 hx
    simp only [listD, Option.some.injEq] at hd
    subst hd
    obtain ⟨a, vs, e1, h1, r1⟩ := hz.lst_ wd
    subst e1
    refine call_list_of pins s σ _ _ us Q I r ⟨a, vs, rfl, .inl (.inl h1), fun l hl => ?_⟩
    obtain ⟨al, rr⟩ := new_lst wd hl r1
    exact q _ _ al rr
  | [.tup ds], hd, hx =>
    obtain ⟨x, rfl, hz⟩ := pr1 hx
    simp only [listD, Option.some.injEq] at hd
    subst hd
    obtain ⟨a, vs, e1, h1, r1⟩ := hz.tup_ wd
    subst e1
    refine call_list_of pins s σ _ _ us Q I r ⟨a, vs, rfl, .inr (by rw [k.K]; exact h1), fun l hl => ?_⟩
    obtain ⟨al, rr⟩ := new_lst wd hl r1
    exact q _ _ al rr
theorem int_D (k : Lk T X) : CallR X (.type "int") (rC T intD) := by
  intro pins s σ H xs us Q I r h
  obtain ⟨w, S, ds, d, rfl, wd, hx, hd, q⟩ := h
  match ds, hd, hx with
  | [.int i], hd, hx =>
    obtain ⟨x, rfl, hz⟩ := pr1 hx
    simp only [intD, Option.some.injEq] at hd
    subst hd
    rw [hz.int_] at r
    exact call_int1 pins s σ _ _ us Q I r (.inl ⟨i, rfl, q _ w (.refl wd) (.int _)⟩)
theorem str_D (k : Lk T X) : CallR X (.type "str") (rC T strD) := by
  intro pins s σ H xs us Q I r h
  obtain ⟨w, S, ds, d, rfl, wd, hx, hd, q⟩ := h
  match ds, hd, hx with
  | [.int i], hd, hx =>
    obtain ⟨x, rfl, hz⟩ := pr1 hx
    simp only [strD, Option.ite_none_right_eq_some, Option.some.injEq] at hd
    obtain ⟨hl, hd⟩ := hd
    subst hd
    rw [hz.int_] at r
    exact call_str_int pins s σ _ _ us Q I r ⟨i, rfl, hl, q _ w (.refl wd) (.str _)⟩
theorem tyD_x {w : Wo} {S : List MO} {K : PySem.W.Frag} (hK : K = T.K) (wd : Wd T w S) {d : D} {n : String} {v : V} (hd : tyD d = some n) (h : RepB T w d v) : TyX K w.H v (.type n) := by
  cases d <;> simp only [tyD, reduceCtorEq, Option.some.injEq] at hd <;> subst hd
  case non => rw [h.none_]; exact .base .non
  case bl b => rw [h.bl_]; exact .base (.bl b)
  case int b => rw [h.int_]; exact .base (.int b)
  case str b => rw [h.str_]; exact .base (.str b)
  case lst ds =>
    obtain ⟨a, vs, e1, h1, r1⟩ := h.lst_ wd
    subst e1
    rcases h1 with h1 | ⟨o, h1⟩
    · exact .base (.lst h1)
    · exact .base (.frz h1)
  case tup ds =>
    obtain ⟨a, vs, e1, h1, r1⟩ := h.tup_ wd
    subst e1
    rcases h1 with (h1 | ⟨o, h1⟩) | ⟨o, its, n, h1, h2, _⟩
    · exact .base (.tup h1)
    · exact .fTuple h1
    · exact .kTuple (by rw [hK]; exact h1) h2
/-- isinstance(x, T), T a built-in class -/
def isiD (t : String) (d : D) : Option D := (tyD d).bind fun n => (kitB n t).map .bl
theorem je_isi (k : Lk T X) {W : WX} {a : Expr} {t : Str} {tn : String} {p p2 pos : Pos} {f : List SV → M D} (hg : Gl X "isinstance") (hm : X.mg "isinstance" = none) (ha : PE X a (tMB T W f)) (ht : PE X (.Name t p2) (tC (.ty tn)))
    (he : starEach [a, .Name t p2] X.env = (false, eval a X.env) :: starEach [.Name t p2] X.env) (he2 : starEach [.Name t p2] X.env = (false, eval (.Name t p2) X.env) :: starEach [] X.env) (hpl : (backTo pos (starEach [.Name t p2] X.env)).any (·.1) = false) :
    PE X (.Call (.Name "isinstance" p) [a, .Name t p2] [] pos) (tM T W fun sd => f sd >>= fun d => M.lift (isiD tn d)) := by
  refine PE.imp (pe_callB (id := "isinstance") call_isi hg hm (by decide +kernel) (pa_cons ha (pa_cons ht pa_nil he2) he) (by decide) (by decide) he hpl) fun σ H Q q => ?_
  refine tR_bnd (f := f) (k := fun _ d => M.lift (isiD tn d)) q fun sd S1 d v w1 d1 s1 r1 h1 => ?_
  obtain ⟨r, hr, q⟩ := h1.fin d1
  simp only [isiD, Option.bind_eq_some_iff, Option.map_eq_some_iff] at hr
  obtain ⟨n, hn, b, hb, hr⟩ := hr
  subst hr
  exact ⟨v, .ty tn, .type n, .type tn, b, rfl, .ty tn, tyD_x k.K d1 hn r1, kit_ty hb, q _ w1 (.refl d1) (.bl _)⟩
end
/-- what a def's run wants -/
def spD (T : Tb) (n : Nat) (g : List D → M D) : Sp := fun vs H Q E => ∃ ds S w, ds.length = n ∧ w.H = H ∧ Wd T w S ∧ RepA T w.lam w.G ds vs ∧ PG T E (RepV T) Q w (g ds S)
/-- a def of the table -/
structure FnD (T : Tb) (mg : Str → Option Value) (base : Heap) (k : Nat) (f : Nat) (x : Str) (ps : List Str) (g : List D → M D) : Prop where
  ex : ∃ a fd, T.fa f = some a ∧ mg x = some (.ref a) ∧ PySem.W.keepIn T.K (.ref a) = true ∧ Binds T.K fd ps [] ∧ (∃ oc od osl, T.K.lookup a = some ⟨oc, od, .func fd, osl⟩) ∧ FnOk T.P T.w T.K mg base (L2N.CX T.P T.w) k a fd ps (spD T ps.length g)
section
variable {X : Cx} {T : Tb} {W : WX}
theorem je_call (l : Lk T X) (tk : L2N.Takes X W) {k f : Nat} {x : Str} {ps : List Str} {g : List D → M D} {e : Expr} {es : List Expr} {p pos : Pos} {h : List SV → M (List D)} (F : FnD T X.mg X.base k f x ps g) (hr : Room k X.A) (hg : Gl X x) (ha : PA X (e :: es) (tML T W h)) (hl : (e :: es).length = ps.length)
    (hlen : ∀ sd S ds S', h sd S = .ok ds S' → ds.length = (e :: es).length)
    (hdb : (x == ("__debug__" : Str)) = false) (he : starEach (e :: es) X.env = (false, eval e X.env) :: starEach es X.env) (hpl : (backTo pos (starEach es X.env)).any (·.1) = false) :
    PE X (.Call (.Name x p) (e :: es) [] pos) (tM T W fun sd => h sd >>= g) := by
  obtain ⟨a, fd, ha', hm, hk, hb, _, F⟩ := F.ex
  obtain ⟨lK, lP, lw⟩ := l
  have F' : FnOk X.prog X.w X.K X.mg X.base (L2N.CX X.prog X.w) k a fd ps (spD T ps.length g) := by rw [lK, lP, lw]; exact F
  refine PE.imp (pe_callSD F' hr hg hm (by rw [lK]; exact hk) (by rw [lK]; exact hb) .nil (fun σ => L2N.passAt tk σ) ha hdb he hpl) fun σ H Q q => ?_
  obtain ⟨sd, S, w, e1, d1, s1, q⟩ := q
  have q : PG T (fun c d H' => W c d σ H') (RepV T) Q w ((h sd >>= g) S) := q
  rw [bind_ap] at q
  refine ⟨sd, S, w, e1, d1, s1, ?_⟩
  cases hh : h sd S with
  | ok ds S1 =>
    rw [hh] at q
    intro vs w1 x1 d2 r2
    rw [List.append_nil]
    exact ⟨ds, S1, w1, by rw [hlen _ _ _ _ hh, hl], rfl, d2, r2, PG.shift q x1⟩
  | exc x S1 => rw [hh] at q; exact q
  | bad => rw [hh] at q; exact q
end
end Q
set_option Elab.async false
set_option linter.all false
set_option maxRecDepth 100000
set_option maxHeartbeats 4000000
namespace Q
open PySem PySem.Spec PyProof.Rows L2

theorem Wd.poke {T : Tb} {w : Wo} {S : List MO} {a : Addr} {o o' : HO} (d : Wd T w S) (h : w.H a = some o) (hg : w.G a = none) (hl : a ∉ w.lam) (ho : ∀ ps, o ≠ .tbl ps) (ho2 : ∀ x, o ≠ .own x) (ho3 : ∀ q, o ≠ LamX.CodeO a q) : Wd T ⟨w.lam, w.G, upd w.H a o'⟩ S where
  len := d.len
  nd := d.nd
  sub := fun b u e => by
    have n : b ≠ a := fun z => by rw [z, hg] at e; cases e
    show upd w.H a o' b = some u
    rw [upd_ne n]; exact d.sub b u e
  out := d.out
  obj := fun n x m h1 h2 => by
    have q := d.obj n x m h1 h2
    have nx : x ≠ a := fun z => hl (z ▸ List.mem_of_getElem? h1)
    cases m with
    | lst ds =>
      obtain ⟨vs, h1, h2⟩ := q
      exact ⟨vs, by show upd w.H a o' x = _; rw [upd_ne nx]; exact h1, h2⟩
    | ins c fs =>
      obtain ⟨C, dx, fvs, h0, h1, h2, h3, h4, h5⟩ := q
      have ndx : dx ≠ a := fun z => by rw [z, h] at h2; exact ho2 _ (Option.some.inj h2)
      exact ⟨C, dx, fvs, h0, by show upd w.H a o' x = _; rw [upd_ne nx]; exact h1, by show upd w.H a o' dx = _; rw [upd_ne ndx]; exact h2, h3, h4, h5⟩
  tabs := fun p hp => by
    obtain ⟨ps, h1, h2, h3⟩ := d.tabs p hp
    have n : p.1 ≠ a := fun z => by rw [z, h] at h1; exact ho _ (Option.some.inj h1)
    refine ⟨ps, by show upd w.H a o' p.1 = _; rw [upd_ne n]; exact h1, h2, fun pos cv hc => ?_⟩
    obtain ⟨c, e1, e2⟩ := h3 pos cv hc
    have n2 : c ≠ a := fun z => by rw [z, h] at e2; exact ho3 _ (Option.some.inj e2)
    exact ⟨c, e1, by show upd w.H a o' c = _; rw [upd_ne n2]; exact e2⟩
  notb := d.notb

theorem lst_code {vs : List V} {a : Addr} : ∀ q, (HO.lst vs) ≠ LamX.CodeO a q := fun q z => by
  unfold LamX.CodeO at z
  cases z
theorem Ext.poke {w0 w : Wo} {a : Addr} {o : HO} (e : Ext w0 w) (h : w0.H a = none) : Ext w0 ⟨w.lam, w.G, upd w.H a o⟩ where
  lam := e.lam
  new := e.new
  g := e.g
  gnew := e.gnew
  fr := fun b u h1 h2 h3 => by
    have n : b ≠ a := fun z => by rw [z, h] at h1; cases h1
    show upd w.H a o b = some u
    rw [upd_ne n]; exact e.fr b u h1 h2 h3
  there := fun b hb => by
    have n : b ≠ a := fun z => hb (by rw [z]; exact h)
    show upd w.H a o b ≠ none
    rw [upd_ne n]; exact e.there b hb
/-- a new cell, not frozen -/
theorem Wd.cell {T : Tb} {w : Wo} {S : List MO} {p : Addr} {o : HO} (d : Wd T w S) (hp : w.H p = none) : Wd T ⟨w.lam, w.G, upd w.H p o⟩ S where
  len := d.len
  nd := d.nd
  sub := fun b u e => by
    have n : b ≠ p := ne_of_none (d.sub b u e) hp
    show upd w.H p o b = some u
    rw [upd_ne n]; exact d.sub b u e
  out := d.out
  obj := fun n x m h1 h2 => by
    have q := d.obj n x m h1 h2
    cases m with
    | lst ds =>
      obtain ⟨vs, h1, h2⟩ := q
      exact ⟨vs, by show upd w.H p o x = _; rw [upd_ne (ne_of_none h1 hp)]; exact h1, h2⟩
    | ins c fs =>
      obtain ⟨C, dx, fvs, h0, h1, h2, h3, h4, h5⟩ := q
      exact ⟨C, dx, fvs, h0, by show upd w.H p o x = _; rw [upd_ne (ne_of_none h1 hp)]; exact h1, by show upd w.H p o dx = _; rw [upd_ne (ne_of_none h2 hp)]; exact h2, h3, h4, h5⟩
  tabs := d.tabs.ext fun b u e => by
    show upd w.H p o b = some u
    rw [upd_ne (ne_of_none e hp)]; exact e
  notb := d.notb
/-- a cell is frozen -/
theorem Wd.freeze {T : Tb} {w : Wo} {S : List MO} {a : Addr} {o : HO} (d : Wd T w S) (h : w.H a = some o) (hl : a ∉ w.lam) (ho : ∀ ps, o ≠ .tbl ps) (ho2 : ∀ x, o ≠ .own x) : Wd T ⟨w.lam, upd w.G a o, w.H⟩ S := by
  have gm : w.G a = none → Same w.G (upd w.G a o) := fun g b u e => by rw [upd_ne (ne_of_none e g)]; exact e
  have gs : Same w.G (upd w.G a o) := fun b u e => by
    by_cases n : b = a
    · subst n
      have := d.sub b u e
      rw [h] at this
      rw [upd_same]; exact this
    · rw [upd_ne n]; exact e
  refine ⟨d.len, d.nd, fun b u e => ?_, fun x hx => ?_, fun n x m h1 h2 => ?_, d.tabs, fun b ps e => ?_⟩
  · by_cases n : b = a
    · subst n
      have e' : upd w.G b o b = some u := e
      rw [upd_same] at e'
      rw [← e']; exact h
    · have e' : upd w.G a o b = some u := e
      rw [upd_ne n] at e'
      exact d.sub b u e'
  · have n : x ≠ a := fun z => hl (z ▸ hx)
    show upd w.G a o x = none
    rw [upd_ne n]; exact d.out x hx
  · have q := d.obj n x m h1 h2
    cases m with
    | lst ds =>
      obtain ⟨vs, h1, h2⟩ := q
      exact ⟨vs, h1, h2.mono (l := []) (by simp) gs⟩
    | ins c fs =>
      obtain ⟨C, dx, fvs, h0, h1, h2, h3, h4, h5⟩ := q
      have n : dx ≠ a := fun z => by rw [z, h] at h2; exact ho2 _ (Option.some.inj h2)
      refine ⟨C, dx, fvs, h0, h1, h2, ?_, h4, paired_imp (fun p q x => ⟨x.1, x.2.mono (l := []) (by simp) gs⟩) h5⟩
      show upd w.G a o dx = none
      rw [upd_ne n]; exact h3
  · have e' : upd w.G a o b = some (.tbl ps) := e
    by_cases n : b = a
    · subst n
      rw [upd_same] at e'
      exact ho ps (Option.some.inj e')
    · rw [upd_ne n] at e'
      exact d.notb b ps e'
theorem Ext.freeze {w0 w : Wo} {a : Addr} {o : HO} (e : Ext w0 w) (h : w0.H a = none) (hg : w.G a = none) : Ext w0 ⟨w.lam, upd w.G a o, w.H⟩ where
  lam := e.lam
  new := e.new
  g := fun b u hb => by
    have n : b ≠ a := fun z => by
      have := e.g b u hb
      rw [z, hg] at this; cases this
    show upd w.G a o b = some u
    rw [upd_ne n]; exact e.g b u hb
  gnew := fun b h1 h2 => by
    have n : b ≠ a := fun z => h1 (by rw [z]; exact h)
    show upd w.G a o b = none
    rw [upd_ne n]; exact e.gnew b h1 h2
  fr := e.fr
  there := e.there

structure Le (w w' : Wo) : Prop where
  lam : ∃ l, w'.lam = w.lam ++ l
  g : Same w.G w'.G
theorem Ext.le {w w' : Wo} (e : Ext w w') : Le w w' := ⟨e.lam, e.g⟩
theorem Le.refl (w : Wo) : Le w w := ⟨⟨[], by simp⟩, Same.refl _⟩
theorem Le.trans {a b c : Wo} (h : Le a b) (h' : Le b c) : Le a c := by
  obtain ⟨l, e⟩ := h.lam
  obtain ⟨m, e'⟩ := h'.lam
  exact ⟨⟨l ++ m, by rw [e', e, List.append_assoc]⟩, h.g.trans h'.g⟩
theorem Rep.le {T : Tb} {w w' : Wo} (e : Le w w') {d : D} {v : V} (r : Rep T w.lam w.G d v) : Rep T w'.lam w'.G d v := by
  obtain ⟨l, hl⟩ := e.lam
  exact r.mono hl e.g
theorem RepA.le {T : Tb} {w w' : Wo} (e : Le w w') {d : List D} {v : List V} (r : RepA T w.lam w.G d v) : RepA T w'.lam w'.G d v := by
  obtain ⟨l, hl⟩ := e.lam
  exact r.mono hl e.g
structure WalkD (T : Tb) (w : Wo) (ds : List D) (J : It) : Prop where
  go : ∀ i w2 S2, i < ds.length → Le w w2 → Wd T w2 S2 → J.go i w2.H
  stop : ∀ w2 S2, Le w w2 → Wd T w2 S2 → J.stop ds.length w2.H
  yld : ∀ i w2 S2 x H', i < ds.length → Le w w2 → Wd T w2 S2 → J.yld i w2.H x H' → ∃ w3, w3.H = H' ∧ Alc w2 w3 ∧ ∃ d, ds[i]? = some d ∧ Rep T w3.lam w3.G d x
theorem WalkD.le {T : Tb} {w w' : Wo} {ds : List D} {J : It} (h : WalkD T w ds J) (e : Le w w') : WalkD T w' ds J :=
  ⟨fun i w2 S2 hi l d => h.go i w2 S2 hi (e.trans l) d, fun w2 S2 l d => h.stop w2 S2 (e.trans l) d, fun i w2 S2 x H' hi l d y => h.yld i w2 S2 x H' hi (e.trans l) d y⟩
abbrev tMI (T : Tb) (W : WX) (f : List SV → M (List D)) : TI := tR T W (WalkD T) f
/-- a walk over frozen things that yields as Y says -/
theorem walkD_of {T : Tb} {w : Wo} {ds : List D} {J : It} {G : Hp → Prop} {Y : Nat → Hp → V → Hp → Prop} (k : Walk J ds.length G Y) (hG : ∀ w2 S2, Le w w2 → Wd T w2 S2 → G w2.H)
    (hY : ∀ i w2 S2 x H', i < ds.length → Le w w2 → Wd T w2 S2 → Y i w2.H x H' → ∃ w3, w3.H = H' ∧ Alc w2 w3 ∧ ∃ d, ds[i]? = some d ∧ Rep T w3.lam w3.G d x) : WalkD T w ds J :=
  ⟨fun i w2 S2 hi l d => k.goes i _ hi (hG w2 S2 l d), fun w2 S2 l d => k.stops _ (hG w2 S2 l d), fun i w2 S2 x H' hi l d y => hY i w2 S2 x H' hi l d (k.yields i _ x H' hi (hG w2 S2 l d) y)⟩
section
variable {X : Cx} {T : Tb} {W : WX}
theorem PI.imp {tg e : Expr} {t t' : TI} (h : PI X tg e t) (hi : ∀ σ H Q, t' σ H Q → t σ H Q) : PI X tg e t' := ⟨fun pins s σ H Q I q => h.run pins s σ H Q I (hi σ H Q q)⟩
theorem PI.or {tg e : Expr} {t t' : TI} (h : PI X tg e t) (h' : PI X tg e t') : PI X tg e (fun σ H Q => t σ H Q ∨ t' σ H Q) := ⟨fun pins s σ H Q I q => q.elim (h.run pins s σ H Q I) (h'.run pins s σ H Q I)⟩
/-- the items of a list or tuple -/
def itemsD : D → Option (List D)
  | .lst ds => some ds
  | .tup ds => some ds
  | .dct _ ks _ => some ks
  | _ => none
/-- .. of these alone -/
def itemsE : D → Option (List D)
  | .lst ds => some ds
  | .tup ds => some ds
  | _ => none
theorem walk_lst {w : Wo} {a : Addr} {vs : List V} {ds : List D} {K : PySem.W.Frag} (h : Rd w.G a (.lst vs)) (r : RepA T w.lam w.G ds vs) : WalkD T w ds (Itl K a) := by
  have k := walk_list (K := K) (a := a) (xs := vs)
  rw [← r.length] at k
  refine walkD_of k (fun w2 S2 l d => .inl (same_rd (l.g.trans d.sub) h)) fun i w2 S2 x H' hi l d y => ?_
  obtain ⟨e, hx⟩ := y
  obtain ⟨dd, h1, h2⟩ := r.get hx
  exact ⟨w2, e.symm, .refl d, dd, h1, h2.le l⟩
theorem walk_tp {w : Wo} {a : Addr} {vs : List V} {ds : List D} {K : PySem.W.Frag} (h : SqT K w.G a vs) (r : RepA T w.lam w.G ds vs) : WalkD T w ds (Itt K a) := by
  have k := walk_tup (K := K) (a := a) (xs := vs)
  rw [← r.length] at k
  refine walkD_of k (fun w2 S2 l d => same_seqT (l.g.trans d.sub) h) fun i w2 S2 x H' hi l d y => ?_
  obtain ⟨e, hx⟩ := y
  obtain ⟨dd, h1, h2⟩ := r.get hx
  exact ⟨w2, e.symm, .refl d, dd, h1, h2.le l⟩
theorem walk_dk {w : Wo} {a : Addr} {o : Obj} {u : HO} {kv : List V} {ks : List D} (h : w.G a = some (.frz o u)) (r : RepA T w.lam w.G ks kv) : WalkD T w ks (It1 a o u kv) := by
  have k := walk_it1 (a := a) (o := o) (u := u) (l := kv)
  rw [← r.length] at k
  refine walkD_of k (fun w2 S2 l d => d.sub _ _ (l.g _ _ h)) fun i w2 S2 x H' hi l d y => ?_
  obtain ⟨e, hx⟩ := y
  obtain ⟨dd, h1, h2⟩ := r.get hx
  exact ⟨w2, e.symm, .refl d, dd, h1, h2.le l⟩
theorem ji_seq (k : Lk T X) {tg e : Expr} {f : List SV → M D} (he : PE X e (tM T W f)) : PI X tg e (tMI T W fun sd => f sd >>= fun d => M.lift (itemsD d)) := by
  refine PI.imp (PI.or (PI.or (pi_list he) (pi_tup he)) (pi_dkeys k he)) fun σ H Q h => ?_
  obtain ⟨sd, S, w, e1, d1, s1, q⟩ := h
  have q' : PG T (fun c d H' => W c d σ H') (WalkD T) Q w ((f sd >>= fun d => M.lift (itemsD d)) S) := q
  cases hf : f sd S with
  | bad => rw [bind_ap, hf] at q'; exact q'.elim
  | exc x S1 => rw [bind_ap, hf] at q'; exact .inl (.inl ⟨sd, S, w, e1, d1, s1, by rw [hf]; exact q'⟩)
  | ok d S1 =>
    rw [bind_ap, hf] at q'
    cases d <;> first | exact q'.elim | skip
    · refine .inl (.inl ⟨sd, S, w, e1, d1, s1, ?_⟩)
      rw [hf]
      intro v w1 x1 d2 r
      cases r with
      | lst h1 h2 => exact ⟨_, rfl, ⟨_, .inl (same_rd d2.sub h1)⟩, q' _ w1 x1 d2 (walk_lst h1 h2)⟩
    · refine .inl (.inr ⟨sd, S, w, e1, d1, s1, ?_⟩)
      rw [hf]
      intro v w1 x1 d2 r
      cases r with
      | tup h1 h2 => exact ⟨_, rfl, ⟨_, same_seqT d2.sub (by rw [k.K]; exact h1)⟩, q' _ w1 x1 d2 (walk_tp (by rw [k.K]; exact h1) h2)⟩
    · refine .inr ⟨sd, S, w, e1, d1, s1, ?_⟩
      rw [hf]
      intro v w1 x1 d2 r
      cases r with
      | dct h1 g r1 r2 => exact ⟨w1, _, _, _, _, _, _, _, rfl, rfl, d2.sub _ _ h1, g, q' _ w1 x1 d2 (walk_dk h1 r1)⟩
def big62 (i : Int) : Bool := decide (-(2 ^ 62) ≤ i) && decide (i < 2 ^ 62)
def rangeD : List D → Option (List D)
  | [.int j] => if big62 j then some ((List.range j.toNat).map fun i => .int (0 + (i : Nat))) else none
  | [.int i, .int j] => if big62 i && big62 j then some ((List.range (j - i).toNat).map fun n => .int (i + (n : Nat))) else none
  | _ => none
theorem walk_rng {w : Wo} {lo : Int} {n : Nat} : WalkD T w ((List.range n).map fun i => .int (lo + (i : Nat))) (Itr lo n) := by
  have k := walk_range (lo := lo) (n := n)
  have e : n = ((List.range n).map fun (i : Nat) => D.int (lo + (i : Nat))).length := by simp
  have k' : Walk (Itr lo n) ((List.range n).map fun (i : Nat) => D.int (lo + (i : Nat))).length (fun _ => True) (YFn fun i => .int (lo + i)) := by rw [← e]; exact k
  refine walkD_of k' (fun _ _ _ _ => trivial) fun i w2 S2 x H' hi l d y => ?_
  obtain ⟨e1, e2⟩ := y
  subst e2
  refine ⟨w2, e1.symm, .refl d, .int (lo + i), ?_, .int _⟩
  have hi' : i < n := by rw [← e] at hi; exact hi
  rw [List.getElem?_map, List.getElem?_range hi']
  rfl
theorem big_ok {i : Int} (h : big62 i = true) : -(2 ^ 62) ≤ i ∧ i < 2 ^ 62 := by
  simpa [big62, Bool.and_eq_true] using h
theorem ji_range1 {tg a : Expr} {p pos : Pos} {h : List SV → M (List D)} (hg : Gl X "range") (hm : X.mg "range" = none) (ha : PA X [a] (tML T W h)) (hs : starEach [a] X.env = [(false, eval a X.env)]) :
    PI X tg (.Call (.Name "range" p) [a] [] pos) (tMI T W fun sd => h sd >>= fun ds => match ds with | [.int j] => M.lift (rangeD [.int j]) | _ => M.bad) := by
  refine PI.imp (pi_range1 hg hm ha hs) fun σ H Q q => ?_
  refine tR_bnd (f := h) (k := fun _ ds => match ds with | [.int j] => M.lift (rangeD [.int j]) | _ => M.bad) q fun sd S1 ds vs w1 d1 s1 r1 h1 => ?_
  match ds, h1, r1 with
  | [.int j], h1, r1 =>
    obtain ⟨x, hx, q⟩ := PG.fin (o := rangeD [.int j]) h1 d1
    simp only [rangeD, Option.ite_none_right_eq_some, Option.some.injEq] at hx
    obtain ⟨hb, hx⟩ := hx
    subst hx
    cases r1 with
    | cons a r =>
      cases a
      cases r
      exact ⟨j, rfl, (big_ok hb).1, (big_ok hb).2, q _ w1 (.refl d1) walk_rng⟩
theorem ji_range2 {tg a b : Expr} {p pos : Pos} {h : List SV → M (List D)} (hg : Gl X "range") (hm : X.mg "range" = none) (ha : PA X [a, b] (tML T W h)) (hs : starEach [a, b] X.env = [(false, eval a X.env), (false, eval b X.env)]) (hs2 : starEach [b] X.env = [(false, eval b X.env)]) :
    PI X tg (.Call (.Name "range" p) [a, b] [] pos) (tMI T W fun sd => h sd >>= fun ds => match ds with | [.int i, .int j] => M.lift (rangeD [.int i, .int j]) | _ => M.bad) := by
  refine PI.imp (pi_range2 hg hm ha hs hs2) fun σ H Q q => ?_
  refine tR_bnd (f := h) (k := fun _ ds => match ds with | [.int i, .int j] => M.lift (rangeD [.int i, .int j]) | _ => M.bad) q fun sd S1 ds vs w1 d1 s1 r1 h1 => ?_
  match ds, h1, r1 with
  | [.int i, .int j], h1, r1 =>
    obtain ⟨x, hx, q⟩ := PG.fin (o := rangeD [.int i, .int j]) h1 d1
    simp only [rangeD, Option.ite_none_right_eq_some, Option.some.injEq, Bool.and_eq_true] at hx
    obtain ⟨⟨hb, hb2⟩, hx⟩ := hx
    subst hx
    cases r1 with
    | cons a r =>
      cases a
      cases r with
      | cons a r =>
        cases a
        cases r
        exact ⟨i, j, rfl, ⟨(big_ok hb).1, (big_ok hb).2, (big_ok hb2).1, (big_ok hb2).2⟩, q _ w1 (.refl d1) walk_rng⟩
end
end Q
set_option Elab.async false
set_option linter.all false
set_option maxRecDepth 100000
set_option maxHeartbeats 4000000
namespace PySem
open Sem (wp)
section
set_option maxHeartbeats 1000000 in
theorem q_enum_new1 {v : Value} {o : Obj} {Hh : Heap → Prop} (B : Begins v o Hh) :
    Meets (Builtin.«enumerate.__new__» ⟨[.type "enumerate", v], []⟩) (fun _ R s => Hh s.heap ∧ R (.ok (.ret (.ref (s.heap.push o).objs.size))) { s with heap := (s.heap.push o).push { cls := .type "enumerate", data := .fields #[.none, .bool false, .ref s.heap.objs.size, rawInt 0, .none, .none] } }) :=
  .of_wp fun prog w A R s hh => by
    obtain ⟨hp, g, d, tk, os⟩ := s; obtain ⟨hH, hR⟩ := hh
    have hsub := sub_enumerate
    have step : ∀ {A' : Around} {E : Value → Shared → Prop} {Q : Value → Shared → Prop}, Q (.ref hp.objs.size) ⟨hp.push o, g, d, tk, os⟩ → wpAny (model prog w) A' (pyIter v) Q E ⟨hp, g, d, tk, os⟩ :=
      fun q => B.iter prog w _ _ ⟨hp, g, d, tk, os⟩ _ hH q
    wp_walk using step
    refine wpAny_stack_any fun st => wpAny_pure ?_
    split
    · rename_i c _ _ _ _ _
      cases (c == Value.type "enumerate") <;> (wp_walk using step; exact ⟨_, rfl, hR⟩)
    · wp_walk using step
      exact ⟨_, rfl, hR⟩
theorem q_call_enum1 {prog : Program} {w : World} {A : Around} {E : Value → Shared → Prop} {s : Shared} {v : Value} {o : Obj} {Hh : Heap → Prop} {Q : Value → Shared → Prop} (B : Begins v o Hh) (h1 : Hh s.heap)
    (h : ∀ h', IsEnum h' (s.heap.objs.size + 1) s.heap.objs.size 0 .none → h'.get? s.heap.objs.size = some o → h'.objs.size = s.heap.objs.size + 2 → (∀ b o', s.heap.get? b = some o' → h'.get? b = some o') → Q (.ref (s.heap.objs.size + 1)) { s with heap := h' }) :
    wpAny (model prog w) A (call (.type "enumerate") [v]) Q E s := by
  refine callType_new F.called_enumerate (by decide) (F.typeCall_enumerate_1 _) (F.newCall_enumerate_1 _) (fun obj => F.args_object_init_2 obj _) F.entry_enumerate_new (q_enum_new1 B) ⟨h1, ?_⟩
  have hz : (s.heap.push o).objs.size = s.heap.objs.size + 1 := Heap.size_push ..
  show _ ∧ _
  rw [hz]
  have he : IsEnum ((s.heap.push o).push { cls := .type "enumerate", data := .fields #[.none, .bool false, .ref s.heap.objs.size, rawInt 0, .none, .none] }) (s.heap.objs.size + 1) s.heap.objs.size 0 .none := by
    have q := Heap.get?_push_size (s.heap.push o) (o := { cls := .type "enumerate", data := .fields #[.none, .bool false, .ref s.heap.objs.size, rawInt 0, .none, .none] }) rfl
    rw [hz] at q; exact q
  exact ⟨⟨_, he, rfl⟩, h _ he (Heap.get?_push_of_some _ (Heap.get?_push_size _ B.free)) (by rw [Heap.size_push, hz]) fun b o' x => Heap.get?_push_of_some _ (Heap.get?_push_of_some _ x)⟩
end
end PySem
namespace Q
open PySem PySem.Spec PyProof.Rows L2
/-- the tuple at a as it stands, each item in a new pair with its number -/
def IteT (K : PySem.W.Frag) (a : Addr) : It :=
  ⟨fun i H => ∃ (xs : List V) (x : V), SqT K H a xs ∧ xs[i]? = some x, fun i H v H' => ∃ p x, v = .ref p ∧ H p = none ∧ H' = upd H p (.tup [.int (i : Nat), x]) ∧ ∀ xs, SqT K H a xs → xs[i]? = some x, fun i H => ∃ xs : List V, SqT K H a xs ∧ xs.length = i⟩
theorem turn_enumT {P : Program} {w : World} {K : PySem.W.Frag} {elts : List Expr} {kk : Nat} {tpos : Pos} (a e it : Addr) :
    Turn P w K (.Tuple elts kk tpos) (IteT K a) [e, it] e (fun i h => (∃ old, IsEnum h e it ((i : Nat) : Int) old) ∧ h.IsTupleIter it a i ∧ e ≠ it ∧ a ≠ it ∧ e ≠ a) where
  mem := by simp
  obj := fun i h st b hb => by
    obtain ⟨⟨old, he⟩, ⟨o, ho, hc, hd⟩, _⟩ := st
    have hb' : b = e ∨ b = it := by simpa using hb
    rcases hb' with z | z
    · rw [z]; exact ⟨_, he, fun v q => nomatch q⟩
    · rw [z]; exact ⟨o, ho, fun v q => by rw [hd] at q; cases q⟩
  keep := fun i h h' st k => let ⟨⟨old, he⟩, hi, hne⟩ := st; ⟨⟨old, k e (by simp) _ he⟩, hi.at fun o q => k it (by simp) o q, hne⟩
  item := by
    intro X hP hw hK hc i pins s σ H E I hf st hg
    subst hP hw hK
    obtain ⟨⟨old, he⟩, hit, hne, hai, hea⟩ := st
    obtain ⟨xs, x, hq, hx⟩ := hg
    obtain ⟨its, rv, p, hz⟩ := I.tuple hq
    obtain ⟨u, hu, ru⟩ := rv.get hx
    have hel : e < s.heap.objs.size := Heap.lt_size he
    have hil : it < s.heap.objs.size := by obtain ⟨_, q, _⟩ := hit; exact Heap.lt_size q
    have Dr := Draws.tuple (prog := X.prog) (w := X.w) (A := X.A.in1) (I.ok.hd hc) it a hai its.toArray
    have hsz : i < its.toArray.size := by
      have := (List.getElem?_eq_some_iff.mp hu).1
      simpa using this
    refine wpAny_pyNext_enum_itemD Dr he ⟨hit, p⟩ hsz hne (by simp; exact ⟨hne, hea⟩) fun x' h' tk hx' ho hst hT hsz' hk => ?_
    have ex : x' = u := by
      have h3 : its.toArray[i]? = some u := by simpa using hu
      rw [h3] at hx'; exact (Option.some.inj hx').symm
    subst ex
    refine ⟨_, rfl, wpAny_letOwnedTupleGo_enum (s := { s with heap := h', toks := tk + 1 }) ho fun h'' he' sb => ?_⟩
    have hT2 : h''.get? s.heap.objs.size = some { cls := .type "tuple", data := .seq #[.int i tk, x'] } := (sb.2 _ (Nat.ne_of_gt hel)).trans hT
    have new : ObjOk X.prog X.w (upd H s.heap.objs.size (.tup [.int (i : Nat), x])) h'' s.heap.objs.size (.tup [.int (i : Nat), x]) :=
      ⟨by show 2 ≤ sizeLine; decide, [.int i tk, x'], .cons ⟨_, rfl⟩ (.cons ru .nil), ⟨_, hT2, rfl, _, rfl⟩⟩
    have I1 : Inv X pins σ (upd H s.heap.objs.size (.tup [.int (i : Nat), x])) { s with heap := h'', toks := tk + 1 } :=
      I.turnedNew (ch := [e, it]) (fun b ob hb q => (sb.2 b (fun z => hb (by simp [z]))).trans (hk b ob (fun z => hb (by simp [z])) (fun z => hb (by simp [z])) q)) hf (Nat.le_refl _) new
    refine ⟨.ref s.heap.objs.size, _, I1, rfl, ⟨_, x, rfl, I.hok.fresh (Nat.le_refl _), rfl, fun ys hy => by rw [I.tuple_inj hy hq]; exact hx⟩, ⟨⟨x', ?_⟩, hst.1.at fun o q => (sb.2 it (Ne.symm hne)).trans q, hne, hai, hea⟩, fun b hb => ?_⟩
    · have e1 : ((i + 1 : Nat) : Int) = (i : Int) + 1 := by omega
      rw [e1]; exact he'
    · have hb' : b < s.heap.objs.size := by
        have z : b = e ∨ b = it := by simpa using hb
        rcases z with z | z <;> rw [z] <;> assumption
      rw [upd_ne (Nat.ne_of_lt hb')]
      exact (hf b hb).1
  done := by
    intro X hP hw hK hc i pins s σ H E I hf st hg
    subst hP hw hK
    obtain ⟨⟨old, he⟩, hit, hne, hai, hea⟩ := st
    obtain ⟨xs, hq, hx⟩ := hg
    obtain ⟨its, rv, p, hz⟩ := I.tuple hq
    obtain ⟨f0, f1, f2, f3, f4, f5⟩ := hf it (by simp)
    have hl := rv.length
    have Dr := Draws.tuple (prog := X.prog) (w := X.w) (A := X.A.in1) (I.ok.hd hc) it a hai its.toArray
    have hi : i = its.toArray.size := by rw [List.size_toArray]; omega
    exact wpAny_pyNext_enum_endD Dr he (by rw [← hi]; exact ⟨hit, p⟩) fun h' eb => ⟨rfl, I.turned (t' := s.toks) (fun b o hb q => eb b o hb q) f0 f1 f3 f4 f5⟩
  self := fun A i s Q E st h => let ⟨⟨_, he⟩, _⟩ := st; wpAny_pyIter_enum he h
def iEnumT (K : PySem.W.Frag) (ta : TA) : TI := fun σ H R => ta σ H fun vs H1 => ∃ a xs, vs = [.ref a] ∧ SqT K H1 a xs ∧ R (IteT K a) H1
theorem pi_enumT {X : Cx} {e : Expr} {ta : TA} {p pos tpos : Pos} {elts : List Expr} {kk : Nat} (hg : Gl X "enumerate") (hm : X.mg "enumerate" = none) (ha : PA X [e] ta) (hs : starEach [e] X.env = [(false, eval e X.env)]) :
    PI X (.Tuple elts kk tpos) (.Call (.Name "enumerate" p) [e] [] pos) (iEnumT X.K ta) := by
  refine ⟨fun pins s σ H R I h => ?_⟩
  refine Call_ (ld_blt I hg hm boot_enumerate (PyProof.Rows.callWith_type1 (thn (ha.run pos pins s σ H _ I h) fun us s1 ⟨vs, H1, I1, r1, q1⟩ => ?_) hs rfl))
  obtain ⟨a, xs, ex, hq, q⟩ := q1
  subst ex
  cases r1 with
  | cons r rr =>
    cases rr
    cases r
    obtain ⟨its, rv, p', hz⟩ := I1.tuple hq
    refine q_call_enum1 (begins_tuple a its.toArray) p' fun h' he hit hsz hk => wpAny_pyIter_enum he ?_
    have I2 : Inv X pins σ H1 { s1 with heap := h' } := I1.kept (t' := s1.toks) hk
    have hal : a < s1.heap.objs.size := by obtain ⟨o, q, _⟩ := p'; exact Heap.lt_size q
    refine ⟨s1.heap.objs.size + 1, [s1.heap.objs.size + 1, s1.heap.objs.size], _, _, H1, rfl, I2, turn_enumT a (s1.heap.objs.size + 1) s1.heap.objs.size, ⟨⟨.none, he⟩, ⟨_, hit, rfl, rfl⟩, Nat.succ_ne_self _, Nat.ne_of_lt hal, Nat.ne_of_gt (Nat.lt_succ_of_lt hal)⟩, fun b hb => ?_, q⟩
    have z : b = s1.heap.objs.size + 1 ∨ b = s1.heap.objs.size := by simpa using hb
    have hle : s1.heap.objs.size ≤ b := by
      rcases z with z | z <;> rw [z]
      · exact Nat.le_add_right _ _
      · exact Nat.le_refl _
    exact I1.fpOk hle (I1.hok.fresh hle)
section
variable {X : Cx} {T : Tb} {W : WX}
/-- the items of enumerate -/
def numD : Nat → List D → List D
  | _, [] => []
  | n, d :: ds => .tup [.int (n : Nat), d] :: numD (n + 1) ds
theorem numD_length : ∀ (n : Nat) (ds : List D), (numD n ds).length = ds.length
  | _, [] => rfl
  | n, d :: ds => by simp [numD, numD_length (n + 1) ds]
theorem numD_get : ∀ (n : Nat) (ds : List D) (i : Nat) (d : D), ds[i]? = some d → (numD n ds)[i]? = some (.tup [.int ((n + i : Nat)), d])
  | _, [], i, d, h => by simp at h
  | n, e :: ds, 0, d, h => by
    have h' := Option.some.inj h
    subst h'; rfl
  | n, e :: ds, i + 1, d, h => by
    have q := numD_get (n + 1) ds i d (by simpa using h)
    rw [show n + (i + 1) = n + 1 + i by omega]
    exact q
theorem new_pair {w : Wo} {S : List MO} {p : Addr} {d e : D} {x y : V} (wd : Wd T w S) (hp : w.H p = none) (r : Rep T w.lam w.G d x) (r' : Rep T w.lam w.G e y) : Alc w (w.put p (.tup [x, y])) ∧ Rep T (w.put p (.tup [x, y])).lam (w.put p (.tup [x, y])).G (.tup [d, e]) (.ref p) :=
  new_tup wd hp (.cons r (.cons r' .nil))
theorem walk_en {w : Wo} {a : Addr} {vs : List V} {ds : List D} {K : PySem.W.Frag} (h : Rd w.G a (.lst vs)) (r : RepA T w.lam w.G ds vs) : WalkD T w (numD 0 ds) (Ite K a) := by
  have k := walk_enum (K := K) (a := a) (xs := vs)
  rw [← r.length, ← numD_length 0 ds] at k
  refine walkD_of k (fun w2 S2 l d => .inl (same_rd (l.g.trans d.sub) h)) fun i w2 S2 x H' hi l d y => ?_
  obtain ⟨p, u, z, e1, hp, e2, hu, hz⟩ := y
  obtain ⟨dd, h1, h2⟩ := r.get hz
  have eu := Option.some.inj hu
  subst e1; subst e2; subst eu
  obtain ⟨al, rr⟩ := new_pair d hp (.int ((i : Nat) : Int)) (h2.le l)
  refine ⟨_, rfl, al, _, numD_get 0 ds i dd h1, ?_⟩
  rw [Nat.zero_add]; exact rr
theorem walk_enT {w : Wo} {a : Addr} {vs : List V} {ds : List D} {K : PySem.W.Frag} (h : SqT K w.G a vs) (r : RepA T w.lam w.G ds vs) : WalkD T w (numD 0 ds) (IteT K a) where
  go := fun i w2 S2 hi l d => by
    rw [numD_length, r.length] at hi
    exact ⟨vs, vs[i], same_seqT (l.g.trans d.sub) h, by simp [hi]⟩
  stop := fun w2 S2 l d => ⟨vs, same_seqT (l.g.trans d.sub) h, by rw [numD_length, r.length]⟩
  yld := fun i w2 S2 x H' hi l d y => by
    obtain ⟨p, z, e1, hp, e2, hz⟩ := y
    obtain ⟨dd, h1, h2⟩ := r.get (hz vs (same_seqT (l.g.trans d.sub) h))
    subst e1; subst e2
    obtain ⟨al, rr⟩ := new_pair d hp (.int ((i : Nat) : Int)) (h2.le l)
    refine ⟨_, rfl, al, _, numD_get 0 ds i dd h1, ?_⟩
    rw [Nat.zero_add]; exact rr
theorem ji_enum (k : Lk T X) {e : Expr} {p pos tpos : Pos} {elts : List Expr} {kk : Nat} {h : List SV → M (List D)} (hg : Gl X "enumerate") (hm : X.mg "enumerate" = none) (ha : PA X [e] (tML T W h)) (hs : starEach [e] X.env = [(false, eval e X.env)]) :
    PI X (.Tuple elts kk tpos) (.Call (.Name "enumerate" p) [e] [] pos) (tMI T W fun sd => h sd >>= fun ds => match ds with | [d] => M.lift ((itemsE d).map (numD 0)) | _ => M.bad) := by
  refine PI.imp (PI.or (pi_enum hg hm ha hs) (pi_enumT hg hm ha hs)) fun σ H Q q => ?_
  obtain ⟨sd, S, w, e1, d1, s1, q⟩ := q
  have q' : PG T (fun c d H' => W c d σ H') (WalkD T) Q w ((h sd >>= fun ds => match ds with | [d] => M.lift ((itemsE d).map (numD 0)) | _ => M.bad) S) := q
  rw [bind_ap] at q'
  cases hf : h sd S with
  | bad => rw [hf] at q'; exact q'.elim
  | exc x S1 => rw [hf] at q'; exact .inl ⟨sd, S, w, e1, d1, s1, by rw [hf]; exact q'⟩
  | ok ds S1 =>
    rw [hf] at q'
    match ds, q', hf with
    | [d], q', hf =>
      cases d <;> first | exact q'.elim | skip
      · refine .inl ⟨sd, S, w, e1, d1, s1, ?_⟩
        rw [hf]
        intro vs w1 x1 d2 r
        cases r with
        | cons r rr =>
          cases rr
          cases r with
          | lst h1 h2 => exact ⟨_, _, rfl, .inl (same_rd d2.sub h1), q' _ w1 x1 d2 (walk_en h1 h2)⟩
      · refine .inr ⟨sd, S, w, e1, d1, s1, ?_⟩
        rw [hf]
        intro vs w1 x1 d2 r
        cases r with
        | cons r rr =>
          cases rr
          cases r with
          | tup h1 h2 => exact ⟨_, _, rfl, same_seqT d2.sub (by rw [k.K]; exact h1), q' _ w1 x1 d2 (walk_enT (by rw [k.K]; exact h1) h2)⟩
def zipD (xs ys : List D) : List D := List.zipWith (fun x y => .tup [x, y]) xs ys
theorem zipD_get {xs ys : List D} {i : Nat} {x y : D} (h : xs[i]? = some x) (h' : ys[i]? = some y) : (zipD xs ys)[i]? = some (.tup [x, y]) := by
  unfold zipD
  rw [List.getElem?_zipWith, h, h']
theorem walk_zp {w : Wo} {a b : Addr} {vs us : List V} {ds es : List D} {K : PySem.W.Frag} (h : Rd w.G a (.lst vs)) (r : RepA T w.lam w.G ds vs) (h' : Rd w.G b (.lst us)) (r' : RepA T w.lam w.G es us) : WalkD T w (zipD ds es) (Itz K a b) := by
  have k := walk_zip (K := K) (a := a) (b := b) (xs := vs) (ys := us) (n := (zipD ds es).length) (by rw [← r.length, ← r'.length]; simp [zipD])
  refine walkD_of k (fun w2 S2 l d => ⟨.inl (same_rd (l.g.trans d.sub) h), .inl (same_rd (l.g.trans d.sub) h')⟩) fun i w2 S2 x H' hi l d y => ?_
  obtain ⟨p, u, z, e1, hp, e2, hu, hz⟩ := y
  obtain ⟨dd, h1, h2⟩ := r.get hu
  obtain ⟨de, h3, h4⟩ := r'.get hz
  subst e1; subst e2
  obtain ⟨al, rr⟩ := new_pair d hp (h2.le l) (h4.le l)
  exact ⟨_, rfl, al, _, zipD_get h1 h3, rr⟩
theorem walk_zpT {w : Wo} {a b : Addr} {vs us : List V} {ds es : List D} {K : PySem.W.Frag} (h : SqT K w.G a vs) (r : RepA T w.lam w.G ds vs) (h' : SqT K w.G b us) (r' : RepA T w.lam w.G es us) : WalkD T w (zipD ds es) (RZ.ItzT K a b) where
  go := fun i w2 S2 hi l d => by
    have hl : (zipD ds es).length = min vs.length us.length := by rw [← r.length, ← r'.length]; simp [zipD]
    have h1 : i < vs.length := by omega
    have h2 : i < us.length := by omega
    exact ⟨vs, us, vs[i], us[i], same_seqT (l.g.trans d.sub) h, same_seqT (l.g.trans d.sub) h', by simp [h1], by simp [h2]⟩
  stop := fun w2 S2 l d => by
    have hl : (zipD ds es).length = min vs.length us.length := by rw [← r.length, ← r'.length]; simp [zipD]
    exact ⟨vs, us, same_seqT (l.g.trans d.sub) h, same_seqT (l.g.trans d.sub) h', by omega⟩
  yld := fun i w2 S2 x H' hi l d y => by
    obtain ⟨p, u, z, e1, hp, e2, hu, hz⟩ := y
    obtain ⟨dd, h1, h2⟩ := r.get (hu vs (same_seqT (l.g.trans d.sub) h))
    obtain ⟨de, h3, h4⟩ := r'.get (hz us (same_seqT (l.g.trans d.sub) h'))
    subst e1; subst e2
    obtain ⟨al, rr⟩ := new_pair d hp (h2.le l) (h4.le l)
    exact ⟨_, rfl, al, _, zipD_get h1 h3, rr⟩
def zipM : List D → M (List D)
  | [.lst xs, .lst ys] => pure (zipD xs ys)
  | [.tup xs, .tup ys] => pure (zipD xs ys)
  | _ => M.bad
theorem ji_zip (k : Lk T X) {e e2 : Expr} {p pos tpos : Pos} {elts : List Expr} {kk : Nat} {h : List SV → M (List D)} (hg : Gl X "zip") (hm : X.mg "zip" = none) (ha : PA X [e, e2] (tML T W h)) (hs : starEach [e, e2] X.env = (false, eval e X.env) :: starEach [e2] X.env) (hpl : (backTo pos (starEach [e2] X.env)).any (·.1) = false) :
    PI X (.Tuple elts kk tpos) (.Call (.Name "zip" p) [e, e2] [] pos) (tMI T W fun sd => h sd >>= zipM) := by
  refine PI.imp (RZ.pi_zipA hg hm ha hs hpl) fun σ H Q q => ?_
  refine tR_bnd (f := h) (k := fun _ ds => zipM ds) q fun sd S1 ds vs w1 d1 s1 r1 h1 => ?_
  match ds, h1, r1 with
  | [.lst xs, .lst ys], h1, .cons (.lst a1 a2) (.cons (.lst b1 b2) .nil) => exact ⟨_, _, _, _, rfl, .inl ⟨.inl (same_rd d1.sub a1), .inl (same_rd d1.sub b1), h1 _ w1 (.refl w1) d1 (walk_zp a1 a2 b1 b2)⟩⟩
  | [.tup xs, .tup ys], h1, .cons (.tup a1 a2) (.cons (.tup b1 b2) .nil) => exact ⟨_, _, _, _, rfl, .inr ⟨same_seqT d1.sub (by rw [k.K]; exact a1), same_seqT d1.sub (by rw [k.K]; exact b1), h1 _ w1 (.refl w1) d1 (walk_zpT (by rw [k.K]; exact a1) a2 (by rw [k.K]; exact b1) b2)⟩⟩
end
end Q
set_option Elab.async false
set_option linter.all false
set_option maxRecDepth 100000
set_option maxHeartbeats 4000000
namespace Q
open PySem PySem.Spec PyProof.Rows L2

inductive Tg where
  | nm (i : Nat)
  | tp (ts : List Tg)
mutual
def asgT : Tg → D → List SV → Option (List SV)
  | .nm i, d, sd => some (sd.set i (.val d))
  | .tp ts, d, sd => match d with
    | .tup ds => if ds.length = ts.length then asgA ts ds sd else none
    | _ => none
def asgA : List Tg → List D → List SV → Option (List SV)
  | [], _, sd => some sd
  | t :: ts, ds, sd => match ds with
    | d :: ds => match asgT t d sd with
      | some sd' => asgA ts ds sd'
      | none => none
    | [] => none
end
mutual
def Tg.slots : Tg → List Nat
  | .nm i => [i]
  | .tp ts => slotsA ts
def slotsA : List Tg → List Nat
  | [] => []
  | t :: ts => t.slots ++ slotsA ts
end
/-- all but some slots stand -/
def Away (l : List Nat) (σ σ' : L2.St) : Prop := σ'.length = σ.length ∧ ∀ j, j ∉ l → σ'[j]? = σ[j]?
theorem Away.trans {l m : List Nat} {a b c : L2.St} (h : Away l a b) (h' : Away m b c) : Away (l ++ m) a c :=
  ⟨h'.1.trans h.1, fun j hj => by
    have h1 : j ∉ l := fun z => hj (List.mem_append_left _ z)
    have h2 : j ∉ m := fun z => hj (List.mem_append_right _ z)
    rw [h'.2 j h2, h.2 j h1]⟩
def gD (T : Tb) (t : Tg) : TG := fun v σ H K => ∃ w S sd d sd', w.H = H ∧ Wd T w S ∧ RS T w sd σ ∧ Rep T w.lam w.G d v ∧ asgT t d sd = some sd' ∧ ∀ σ', RS T w sd' σ' → Away t.slots σ σ' → K σ' H
def gDs (T : Tb) (ts : List Tg) : TGs := fun vs σ H K => ∃ w S sd ds sd', w.H = H ∧ Wd T w S ∧ RS T w sd σ ∧ RepA T w.lam w.G ds vs ∧ ds.length = ts.length ∧ asgA ts ds sd = some sd' ∧ ∀ σ', RS T w sd' σ' → Away (slotsA ts) σ σ' → K σ' H
section
variable {X : Cx} {T : Tb} {W : WX}
theorem LPG.imp {e : Expr} {t t' : TG} (h : L2.PG X e t) (hi : ∀ v σ H K, t' v σ H K → t v σ H K) : L2.PG X e t' := ⟨fun pins s σ H x u Q I r q => h.run pins s σ H x u Q I r (hi x σ H Q q)⟩
theorem LPGs.imp {e : List Expr} {t t' : TGs} (h : L2.PGs X e t) (hi : ∀ v σ H K, t' v σ H K → t v σ H K) : L2.PGs X e t' := ⟨fun pins s σ H x u Q I r q => h.run pins s σ H x u Q I r (hi x σ H Q q)⟩
theorem jg_nm {i : Nat} {x : Str} {pos : Pos} (hN : X.N.Nodup) (hi : X.N[i]? = some x) (hx : Loc X.env.scope x) (hf : X.fn x = true ∨ X.env.scope.names.lookup x = some .local) : L2.PG X (.Name x pos) (gD T (.nm i)) :=
  LPG.imp (pg_name hN hi hx hf) fun v σ H K h => by
    obtain ⟨w, S, sd, d, sd', e1, d1, s1, r, ha, k⟩ := h
    simp only [asgT, Option.some.injEq] at ha
    subst ha
    refine k _ (s1.setv i r) ⟨by simp, fun j hj => ?_⟩
    have n : i ≠ j := fun z => hj (by simp [Tg.slots, z])
    rw [List.getElem?_set_ne n]
theorem jgs_nil : L2.PGs X [] (gDs T []) := LPGs.imp pgs_nil fun v σ H K h => by
  obtain ⟨w, S, sd, ds, sd', e1, d1, s1, r, hl, ha, k⟩ := h
  cases r with
  | cons a b => simp at hl
  | nil =>
    simp only [asgA, Option.some.injEq] at ha
    subst ha
    exact ⟨rfl, k σ s1 ⟨rfl, fun _ _ => rfl⟩⟩
theorem jgs_cons {e : Expr} {es : List Expr} {t : Tg} {ts : List Tg} (h1 : L2.PG X e (gD T t)) (h2 : L2.PGs X es (gDs T ts)) (hs : List.map (fun x => x.snd) (assignEach (e :: es) X.env) = assign e X.env :: List.map (fun x => x.snd) (assignEach es X.env)) : L2.PGs X (e :: es) (gDs T (t :: ts)) := LPGs.imp (pgs_cons h1 h2 hs) fun v σ H K h => by
  obtain ⟨w, S, sd, ds, sd', e1, d1, s1, r, hl, ha, k⟩ := h
  cases r with
  | nil => simp at hl
  | @cons d v ds vs a b =>
    simp only [asgA] at ha
    cases q : asgT t d sd with
    | none => rw [q] at ha; cases ha
    | some sd1 =>
      rw [q] at ha
      refine ⟨v, vs, rfl, w, S, sd, d, sd1, e1, d1, s1, a, q, fun σ1 s2 aw => ?_⟩
      exact ⟨w, S, sd1, ds, sd', e1, d1, s2, b, by simpa using hl, ha, fun σ2 s3 aw2 => k σ2 s3 (aw.trans aw2)⟩
theorem jg_tp (l : Lk T X) {es : List Expr} {kk : Nat} {pos : Pos} {ts : List Tg} (hc : X.calm = true) (h : L2.PGs X es (gDs T ts)) (hp : L2.PG X (.Tuple es kk pos) (gTup X.K ts.length (gDs T ts))) : L2.PG X (.Tuple es kk pos) (gD T (.tp ts)) :=
  LPG.imp hp fun v σ H K h => by
    obtain ⟨w, S, sd, d, sd', e1, d1, s1, r, ha, k⟩ := h
    cases r <;> simp only [asgT, reduceCtorEq, Option.ite_none_right_eq_some] at ha
    rename_i a vs ds q r
    obtain ⟨hl, ha⟩ := ha
    exact ⟨a, vs, rfl, by rw [← e1, l.K]; exact same_seqT d1.sub q, by rw [← r.length]; exact hl, w, S, sd, ds, sd', e1, d1, s1, r, hl, ha, k⟩

def wipeS (sd : List SV) : List Nat → List SV
  | [] => sd
  | v :: vs => (wipeS sd vs).set v .un
theorem RS.un {w : Wo} {sd : List SV} {σ : L2.St} (r : RS T w sd σ) (i : Nat) (o : Option V) : RS T w (sd.set i .un) (σ.set i o) := by
  refine ⟨by simp [r.len], fun j sv ov h1 h2 => ?_, fun j k sj sk a hjk h1 h2 o1 o2 h3 h4 => ?_⟩
  · by_cases e : i = j
    · subst e
      rw [List.getElem?_set_self'] at h1
      cases q : sd[i]? with
      | none => rw [q] at h1; cases h1
      | some z => rw [q] at h1; cases h1; exact trivial
    · rw [List.getElem?_set_ne e] at h1 h2
      exact r.at_ j sv ov h1 h2
  · have nn : ∀ j sj, (sd.set i .un)[j]? = some sj → sj.isOwn = true → i ≠ j := fun j sj h1 o1 e => by
      subst e
      rw [List.getElem?_set_self'] at h1
      cases q : sd[i]? with
      | none => rw [q] at h1; cases h1
      | some z => rw [q] at h1; cases h1; cases o1
    have n1 := nn j sj h1 o1
    have n2 := nn k sk h2 o2
    rw [List.getElem?_set_ne n1] at h1 h3
    rw [List.getElem?_set_ne n2] at h2 h4
    exact r.ap j k sj sk a hjk h1 h2 o1 o2 h3 h4
theorem RS.wipe {w : Wo} {sd : List SV} {σ : L2.St} (r : RS T w sd σ) : ∀ vs : List Nat, RS T w (wipeS sd vs) (L2.wipe σ vs)
  | [] => r
  | v :: vs => (r.wipe vs).un v none
theorem wipe_len (σ : L2.St) : ∀ vs : List Nat, (L2.wipe σ vs).length = σ.length
  | [] => rfl
  | v :: vs => by simp [L2.wipe, wipe_len σ vs]
theorem wipe_get (σ : L2.St) (j : Nat) : ∀ vs : List Nat, (L2.wipe σ vs)[j]? = if j ∈ vs ∧ j < σ.length then some none else σ[j]?
  | [] => by simp [L2.wipe]
  | v :: vs => by
    unfold L2.wipe
    rw [List.getElem?_set]
    by_cases e : v = j
    · subst e
      rw [wipe_len]
      by_cases hl : v < σ.length
      · simp [hl]
      · simp [hl]
    · rw [if_neg e, wipe_get σ j vs]
      have : (j ∈ v :: vs) ↔ j ∈ vs := by simp [Ne.symm e]
      simp only [this]
theorem away_wipe {l vs : List Nat} {σ σ' : L2.St} (h : Away l (L2.wipe σ vs) σ') (hs : ∀ i ∈ l, i ∈ vs) : L2.wipe σ' vs = L2.wipe σ vs := by
  have hl : σ'.length = σ.length := by rw [h.1, wipe_len]
  apply List.ext_getElem?
  intro j
  rw [wipe_get, wipe_get, hl]
  by_cases hj : j ∈ vs
  · by_cases hlt : j < σ.length
    · simp [hj, hlt]
    · have h1 : σ'[j]? = none := List.getElem?_eq_none_iff.mpr (by omega)
      have h2 : σ[j]? = none := List.getElem?_eq_none_iff.mpr (by omega)
      simp [hlt, h1, h2]
  · have := h.2 j (fun z => hj (hs j z))
    rw [wipe_get] at this
    simp only [hj, false_and, if_false] at this ⊢
    exact this
/-- no exception leaves -/
def noexc {α : Type} (m : M α) : M α := fun S => match m S with
  | .ok a S' => .ok a S'
  | _ => .bad
/-- item by item -/
def compM (f : D → M (Option D)) : List D → M (List D)
  | [] => pure []
  | d :: ds => f d >>= fun o => compM f ds >>= fun r => pure (match o with
    | some x => x :: r
    | none => r)
/-- one turn: the target, the tests, the element -/
def turnM (t : Tg) (vs : List Nat) (sd : List SV) (c : List SV → M Bool) (e : List SV → M D) (d : D) : M (Option D) :=
  match asgT t d (wipeS sd vs) with
  | none => M.bad
  | some sd' => noexc (c sd') >>= fun b => if b then noexc (e sd') >>= fun x => pure (some x) else pure none
abbrev W0 : WX := fun _ _ _ _ => False
theorem PG.noexc {α β : Type} {W' W2 : Value → Option Addr → Hp → Prop} {R : Wo → α → β → Prop} {Q : β → Hp → Prop} {w : Wo} {m : M α} {S : List MO} (h : PG T W' R Q w (_root_.Q.noexc m S)) : PG T W2 R Q w (m S) := by
  unfold _root_.Q.noexc at h
  cases e : m S with
  | ok a S1 => rw [e] at h; exact h
  | exc x S1 => rw [e] at h; exact h.elim
  | bad => rw [e] at h; exact h.elim
/-- the new list's state -/
structure Acc (T : Tb) (w0 w : Wo) (S : List MO) (Dl : Addr) (acc : List D) (vs : List V) : Prop where
  wd : Wd T w S
  ext : Ext w0 w
  new : w0.H Dl = none
  at_ : w.H Dl = some (.lst vs)
  ng : w.G Dl = none
  nl : Dl ∉ w.lam
  rep : RepA T w.lam w.G acc vs
theorem Acc.step {w0 w w' : Wo} {S S' : List MO} {Dl : Addr} {acc : List D} {vs : List V} (a : Acc T w0 w S Dl acc vs) (e : Ext w w') (d : Wd T w' S') : Acc T w0 w' S' Dl acc vs :=
  ⟨d, a.ext.trans e, a.new, e.fr _ _ a.at_ (fun _ z => by cases z) a.nl, e.gnew _ (by rw [a.at_]; exact fun z => by cases z) a.ng, e.out a.at_ a.nl, a.rep.ext e⟩
theorem Acc.push {w0 w : Wo} {S : List MO} {Dl : Addr} {acc : List D} {vs : List V} (a : Acc T w0 w S Dl acc vs) {d : D} {v : V} (r : Rep T w.lam w.G d v) : Acc T w0 ⟨w.lam, w.G, upd w.H Dl (.lst (vs ++ [v]))⟩ S Dl (acc ++ [d]) (vs ++ [v]) :=
  ⟨a.wd.poke a.at_ a.ng a.nl (fun _ z => by cases z) (fun _ z => by cases z) lst_code, a.ext.poke a.new, a.new, upd_same, a.ng, a.nl, a.rep.app (.cons r .nil)⟩
theorem Wd.nolam {w : Wo} {S : List MO} {a : Addr} (d : Wd T w S) (h : w.H a = none) : a ∉ w.lam := fun z => by
  obtain ⟨n, hn, e⟩ := List.mem_iff_getElem.mp z
  have hs : n < S.length := by rw [← d.len]; exact hn
  have q := d.obj n a S[n] (by rw [List.getElem?_eq_getElem hn, e]) (List.getElem?_eq_getElem hs)
  cases hm : S[n] with
  | lst ds => rw [hm] at q; obtain ⟨vs, h1, _⟩ := q; rw [h] at h1; cases h1
  | ins c fs => rw [hm] at q; obtain ⟨C, dx, fvs, _, h1, _⟩ := q; rw [h] at h1; cases h1
theorem Acc.start {w : Wo} {S : List MO} {Dl : Addr} (d : Wd T w S) (h : w.H Dl = none) : Acc T w ⟨w.lam, w.G, upd w.H Dl (.lst [])⟩ S Dl [] [] :=
  ⟨d.cell h, (Ext.refl w).poke h, h, upd_same, d.sub.free h, d.nolam h, .nil⟩
theorem Acc.done {w0 w : Wo} {S : List MO} {Dl : Addr} {acc : List D} {vs : List V} (a : Acc T w0 w S Dl acc vs) : Wd T ⟨w.lam, upd w.G Dl (.lst vs), w.H⟩ S ∧ Ext w0 ⟨w.lam, upd w.G Dl (.lst vs), w.H⟩ ∧ Rep T w.lam (upd w.G Dl (.lst vs)) (.lst acc) (.ref Dl) :=
  ⟨a.wd.freeze a.at_ a.nl (fun _ z => by cases z) (fun _ z => by cases z), a.ext.freeze a.new a.ng, .lst (.inl upd_same) (a.rep.mono (l := []) (by simp) fun b u e => by rw [upd_ne (ne_of_none e a.ng)]; exact e)⟩
/-- what is behind a comprehension: the list that came, not frozen yet -/
def RepN (T : Tb) (w0 : Wo) : Wo → List D → V → Prop := fun w ds v => ∃ a vs, v = .ref a ∧ w0.H a = none ∧ w.H a = some (.lst vs) ∧ w.G a = none ∧ a ∉ w.lam ∧ RepA T w.lam w.G ds vs
/-- a reading whose value is a new list that is not frozen yet -/
def tRF (T : Tb) (W : WX) (f : List SV → M (List D)) : TE := fun σ H Q => ∃ sd S w, w.H = H ∧ Wd T w S ∧ RS T w sd σ ∧ PG T (fun c d H' => W c d σ H') (RepN T w) Q w (f sd S)
/-- .. frozen -/
theorem tRF_of {f : List SV → M (List D)} {σ : L2.St} {H : Hp} {Q : VK} (h : tM T W (fun sd => f sd >>= fun r => pure (.lst r)) σ H Q) : tRF T W f σ H Q := by
  obtain ⟨sd, S, w, e1, d1, s1, q⟩ := h
  refine ⟨sd, S, w, e1, d1, s1, ?_⟩
  have q : PG T (fun c d H' => W c d σ H') (RepV T) Q w ((f sd >>= fun r => pure (D.lst r)) S) := q
  rw [bind_ap] at q
  cases r : f sd S with
  | bad => rw [r] at q; exact q
  | exc x S1 => rw [r] at q; exact q
  | ok ds S1 =>
    rw [r] at q
    intro v w' e d ⟨a, vs, ev, h0, h1, h2, h3, h4⟩
    subst ev
    exact q (.ref a) ⟨w'.lam, upd w'.G a (.lst vs), w'.H⟩ (e.freeze h0 h2) (d.freeze h1 h3 (fun _ z => by cases z) (fun _ z => by cases z)) (.lst (.inl upd_same) (h4.mono (l := []) (by simp) fun b u e => by
      show upd w'.G a (.lst vs) b = some u
      rw [upd_ne (ne_of_none e h2)]; exact e))
theorem je_of_f {e : Expr} {f : List SV → M (List D)} (h : PE X e (tRF T W f)) : PE X e (tM T W fun sd => f sd >>= fun r => pure (.lst r)) := PE.imp h fun _ _ _ q => tRF_of q
def short (ds : List D) : M (List D) := M.lift (if ds.length < sizeLine then some ds else none)
def compF (it : List SV → M (List D)) (t : Tg) (vs : List Nat) (c : List SV → M Bool) (e : List SV → M D) (sd : List SV) : M (List D) := it sd >>= fun ds => short ds >>= fun ds => compM (turnM t vs sd c e) ds
theorem comp_read {vs : List Nat} {it : List SV → M (List D)} {t : Tg} {c : List SV → M Bool} {e : List SV → M D} (hsl : ∀ i ∈ t.slots, i ∈ vs) {σ : L2.St} {H : Hp} {Q : VK} (q : tRF T W (compF it t vs c e) σ H Q) :
    tLc (tMI T W it) (gD T t) (tMT T W0 c) (tM T W0 e) vs σ H Q := by
  obtain ⟨sd, S, w0, e0, d0, s0, q⟩ := q
  refine ⟨sd, S, w0, e0, d0, s0, PG.bnd (k := fun ds => short ds >>= fun ds => compM (turnM t vs sd c e) ds) q fun ds S1 J w1 x1 d1 wk h1 => ?_⟩
  have s1 := s0.ext x1
  intro Dl hD
  have hlen : ds.length < sizeLine := by
    by_cases hl : ds.length < sizeLine
    · exact hl
    · rw [bind_ap, short, if_neg hl] at h1; exact h1.elim
  rw [bind_ap, short, if_pos hlen] at h1
  have h1 : PG T (fun c d H' => W c d σ H') (RepN T w0) Q w1 ((compM (turnM t vs sd c e) ds) S1) := h1
  have bp : ∀ m : M (List D), m = m >>= fun r => pure ([] ++ r) := fun m => by
    funext S
    rw [bind_ap]
    cases m S <;> rfl
  rw [bp (compM _ _)] at h1
  -- what was made so far, the rest of the list
  let Pv : Nat → Hp → Prop := fun i H => ∃ w S acc us, w.H = H ∧ Acc T w1 w S Dl acc us ∧ acc.length ≤ i ∧
    PG T (fun c d H' => W c d σ H') (RepN T w0) Q w1 ((compM (turnM t vs sd c e) (ds.drop i) >>= fun r => pure (acc ++ r)) S)
  refine ⟨fun i m H => m = ds.length - i ∧ i ≤ ds.length ∧ Pv i H, ⟨ds.length, by simp, Nat.zero_le _, ⟨w1.lam, w1.G, upd w1.H Dl (.lst [])⟩, S1, [], [], rfl, .start d1 hD, Nat.le_refl _, by simpa using h1⟩, ?_⟩
  rintro i m H ⟨rfl, hi, w, S, acc, us, eH, ac, al, pg⟩
  subst eH
  by_cases hlt : i < ds.length
  · refine .inr ⟨wk.go i w S hlt ac.ext.le ac.wd, Pv (i + 1), fun H' p' => ⟨ds.length - (i + 1), by omega, rfl, hlt, p'⟩, fun x H' y => ?_⟩
    obtain ⟨w3, e3, alc, d, hd, rd⟩ := wk.yld i w S x H' hlt ac.ext.le ac.wd y
    subst e3
    have ac3 := ac.step alc.ext (ac.wd.alc alc)
    have hdrop : ds.drop i = d :: ds.drop (i + 1) := by
      obtain ⟨hx, hy⟩ := List.getElem?_eq_some_iff.mp hd
      rw [← hy]; exact List.drop_eq_getElem_cons hx
    rw [hdrop, compM, bind_as] at pg
    simp only [bind_as, pure_bind_] at pg
    obtain ⟨rest, hrest⟩ : ∃ m : M (List D), m = compM (turnM t vs sd c e) (ds.drop (i + 1)) := ⟨_, rfl⟩
    rw [← hrest] at pg
    unfold turnM at pg
    cases ha : asgT t d (wipeS sd vs) with
    | none => rw [ha] at pg; exact pg.elim
    | some sd2 =>
      rw [ha] at pg
      simp only [bind_as] at pg
      refine ⟨w3, S, wipeS sd vs, d, sd2, rfl, ac3.wd, ((s1.ext ac3.ext).wipe _), rd, ha, fun σ2 s2 aw => ⟨away_wipe aw hsl, ?_⟩⟩
      refine ⟨sd2, S, w3, rfl, ac3.wd, s2, ?_⟩
      refine PG.noexc (W' := fun c d H' => W c d σ H') (PG.bnd2 pg ac3.ext fun b S4 b' w4 e4 d4 hb pg4 => ?_)
      subst hb
      have ac4 := ac3.step e4 d4
      cases b with
      | false =>
        rw [if_neg (by simp)]
        refine ⟨w4, S4, acc, us, rfl, ac4, Nat.le_succ_of_le al, ?_⟩
        rw [← hrest]
        simpa [pure_bind_, bind_as] using pg4
      | true =>
        rw [if_pos rfl]
        simp only [if_true, bind_as, pure_bind_] at pg4
        refine ⟨sd2, S4, w4, rfl, d4, s2.ext e4, PG.noexc (W' := fun c d H' => W c d σ H') (PG.bnd2 pg4 ac4.ext fun x S5 y w5 e5 d5 r5 pg5 => ?_)⟩
        have ac5 := ac4.step e5 d5
        have hl5 : us.length < sizeLine := by rw [← ac5.rep.length]; omega
        have ac6 := ac5.push r5
        refine ⟨us, ac5.at_, hl5, _, S5, _, _, rfl, ac6, by simp; omega, ?_⟩
        rw [← hrest]
        simpa [List.append_assoc] using pg5
  · have hi' : i = ds.length := by omega
    subst hi'
    refine .inl ⟨wk.stop w S ac.ext.le ac.wd, ?_⟩
    rw [List.drop_length] at pg
    have pg' : PG T (fun c d H' => W c d σ H') (RepN T w0) Q w1 (Res.ok (acc ++ []) S) := pg
    rw [List.append_nil] at pg'
    have h00 : w0.H Dl = none := Classical.byContradiction fun z => x1.there Dl z ac.new
    exact pg' (.ref Dl) w ac.ext ac.wd ⟨Dl, us, rfl, h00, ac.at_, ac.ng, ac.nl, ac.rep⟩
theorem jf_comp (l : Lk T X) {elt tg iter : Expr} {ifs : List Expr} {scope : Scope} {own : List (Str × Nat)} {pos : Pos} {it : List SV → M (List D)} {t : Tg} {c : List SV → M Bool} {e : List SV → M D}
    (hc : X.calm = true) (hN : X.N.Nodup) (hi : PI X tg iter (tMI T W it)) (ok : BlkOk X.N X.env.scope scope own) (hsl : ∀ i ∈ t.slots, i ∈ own.map (·.2))
    (hg : ∀ (s : Shared) (H : Hp) (C : Addr) (cl : List (Str × Addr)) (fp : List Addr), L2.PG (X.blk s H scope (compEnvC scope cl C X.env) fp) tg (gD T t)) (ht : ∀ (s : Shared) (H : Hp) (C : Addr) (cl : List (Str × Addr)) (fp : List Addr), PTs (X.blk s H scope (compEnvC scope cl C X.env) fp) ifs (tMT T W0 c))
    (he : ∀ (s : Shared) (H : Hp) (C : Addr) (cl : List (Str × Addr)) (fp : List Addr), PE (X.blk s H scope (compEnvC scope cl C X.env) fp) elt (tM T W0 e)) (hs : ∀ x, foldedSetIterable iter X.env x = pure x) :
    PE X (.ListComp elt [⟨tg, iter, ifs, 0⟩] scope pos) (tRF T W (compF it t (own.map (·.2)) c e)) :=
  PE.imp (pe_lc hc hN hi ok hg ht he hs) fun _ _ _ q => comp_read hsl q
end
end Q
set_option Elab.async false
set_option linter.all false
set_option maxRecDepth 100000
set_option maxHeartbeats 4000000
namespace Q
open PySem PySem.Spec PyProof.Rows L2
def few (ds : List D) : M (List D) := M.lift (if ds.length ≤ 4000 then some ds else none)
def comp2M (f : D → M (List D)) : List D → M (List D)
  | [] => pure []
  | d :: ds => f d >>= fun r => comp2M f ds >>= fun rs => pure (r ++ rs)
def turn2M (t0 : Tg) (vs : List Nat) (sd : List SV) (c0 : List SV → M Bool) (it1 : List SV → M (List D)) (t1 : Tg) (vs1 : List Nat) (c1 : List SV → M Bool) (e : List SV → M D) (d : D) : M (List D) :=
  match asgT t0 d (wipeS sd vs) with
  | none => M.bad
  | some sd' => noexc (c0 sd') >>= fun b => if b then noexc (it1 sd') >>= fun es => few es >>= fun es => compM (turnM t1 vs1 sd' c1 e) es else pure []
def compF2 (it : List SV → M (List D)) (t0 : Tg) (vs : List Nat) (c0 : List SV → M Bool) (it1 : List SV → M (List D)) (t1 : Tg) (vs1 : List Nat) (c1 : List SV → M Bool) (e : List SV → M D) (sd : List SV) : M (List D) :=
  it sd >>= fun ds => few ds >>= fun ds => comp2M (turn2M t0 vs sd c0 it1 t1 vs1 c1 e) ds
theorem bind_pure_nil (m : M (List D)) : m = m >>= fun r => pure ([] ++ r) := by
  funext S
  rw [bind_ap]
  cases m S <;> rfl
theorem drop_cons_of {α : Type} {ds : List α} {i : Nat} {d : α} (h : ds[i]? = some d) : ds.drop i = d :: ds.drop (i + 1) := by
  obtain ⟨hx, hy⟩ := List.getElem?_eq_some_iff.mp h
  rw [← hy]; exact List.drop_eq_getElem_cons hx
mutual
theorem asgT_own : ∀ (t : Tg) (d : D) (sd sd' : List SV), asgT t d sd = some sd' → ∀ i sv, sd'[i]? = some sv → sv.isOwn = true → sd[i]? = some sv ∧ i ∉ t.slots
  | .nm j, d, sd, sd', h, i, sv, hi, ho => by
    simp only [asgT, Option.some.injEq] at h
    subst h
    by_cases e : j = i
    · subst e
      rw [List.getElem?_set_self'] at hi
      cases q : sd[j]? with
      | none => rw [q] at hi; cases hi
      | some z => rw [q] at hi; cases hi; cases ho
    · rw [List.getElem?_set_ne e] at hi
      exact ⟨hi, by simp [Tg.slots, Ne.symm e]⟩
  | .tp ts, d, sd, sd', h, i, sv, hi, ho => by
    cases d <;> simp only [asgT, reduceCtorEq, Option.ite_none_right_eq_some] at h
    have q := asgA_own ts _ sd sd' h.2 i sv hi ho
    exact ⟨q.1, by simpa [Tg.slots] using q.2⟩
theorem asgA_own : ∀ (ts : List Tg) (ds : List D) (sd sd' : List SV), asgA ts ds sd = some sd' → ∀ i sv, sd'[i]? = some sv → sv.isOwn = true → sd[i]? = some sv ∧ i ∉ slotsA ts
  | [], ds, sd, sd', h, i, sv, hi, ho => by
    simp only [asgA, Option.some.injEq] at h
    subst h
    exact ⟨hi, by simp [slotsA]⟩
  | t :: ts, [], sd, sd', h, i, sv, hi, ho => by simp [asgA] at h
  | t :: ts, d :: ds, sd, sd', h, i, sv, hi, ho => by
    simp only [asgA] at h
    cases q : asgT t d sd with
    | none => rw [q] at h; cases h
    | some sd1 =>
      rw [q] at h
      obtain ⟨h1, h2⟩ := asgA_own ts ds sd1 sd' h i sv hi ho
      obtain ⟨h3, h4⟩ := asgT_own t d sd sd1 q i sv h1 ho
      exact ⟨h3, by simp [slotsA, h2, h4]⟩
end
/-- no slot alone holds the cell -/
def NoC (sd : List SV) (σ : L2.St) (a : Addr) : Prop := ∀ (i : Nat) (sv : SV), sd[i]? = some sv → sv.isOwn = true → σ[i]? ≠ some (some (V.ref a))
theorem NoC.asg {sd sd' : List SV} {σ σ' : L2.St} {a : Addr} {t : Tg} {d : D} (h : NoC sd σ a) (q : asgT t d sd = some sd') (aw : Away t.slots σ σ') : NoC sd' σ' a := fun i sv hi ho => by
  obtain ⟨h1, h2⟩ := asgT_own t d sd sd' q i sv hi ho
  rw [aw.2 i h2]
  exact h i sv h1 ho
theorem NoC.wipe {sd : List SV} {σ : L2.St} {a : Addr} (h : NoC sd σ a) : ∀ vs : List Nat, NoC (wipeS sd vs) (L2.wipe σ vs) a
  | [] => h
  | v :: vs => fun i sv hi ho => by
    unfold wipeS at hi
    unfold L2.wipe
    by_cases e : v = i
    · subst e
      rw [List.getElem?_set_self'] at hi
      cases q : (wipeS sd vs)[v]? with
      | none => rw [q] at hi; cases hi
      | some z => rw [q] at hi; cases hi; cases ho
    · rw [List.getElem?_set_ne e] at hi
      rw [List.getElem?_set_ne e]
      exact NoC.wipe h vs i sv hi ho
theorem RS.noC {T : Tb} {w : Wo} {sd : List SV} {σ : L2.St} (r : RS T w sd σ) {a : Addr} (h : w.H a = none) : NoC sd σ a := fun i sv hi ho z => by
  have q := r.at_ i sv _ hi z
  cases sv with
  | un => cases ho
  | val d => cases ho
  | own ds =>
    obtain ⟨b, vs, e, h1, _⟩ := q
    cases e
    rw [h] at h1; cases h1
  | dic b ks vs =>
    obtain ⟨b, u, kv, vv, e, h1, _⟩ := q
    cases e
    rw [h] at h1; cases h1
  | raw vv => cases ho
theorem RS.poke {T : Tb} {w : Wo} {sd : List SV} {σ : L2.St} (r : RS T w sd σ) {a : Addr} {o : HO} (n : NoC sd σ a) : RS T ⟨w.lam, w.G, upd w.H a o⟩ sd σ := by
  refine ⟨r.len, fun i sv ov hi ho => ?_, r.ap⟩
  have q := r.at_ i sv ov hi ho
  cases sv with
  | un => trivial
  | val d => exact q
  | raw vv => exact q
  | own ds =>
    obtain ⟨b, vs, e, h1, h2, h3, h4⟩ := q
    have nb : b ≠ a := fun z => by
      subst z; subst e
      exact n i _ hi rfl ho
    exact ⟨b, vs, e, by show upd w.H a o b = _; rw [upd_ne nb]; exact h1, h2, h3, h4⟩
  | dic k ks vs =>
    obtain ⟨b, u, kv, vv, e, h1, h2, h3, h4, h5, h6⟩ := q
    have nb : b ≠ a := fun z => by
      subst z; subst e
      exact n i _ hi rfl ho
    exact ⟨b, u, kv, vv, e, by show upd w.H a o b = _; rw [upd_ne nb]; exact h1, h2, h3, h4, h5, h6⟩
section
variable {X : Cx} {T : Tb} {W : WX}
theorem comp_read2 {vs vs1 : List Nat} {it it1 : List SV → M (List D)} {t0 t1 : Tg} {c0 c1 : List SV → M Bool} {e : List SV → M D} (hsl : ∀ i ∈ t0.slots, i ∈ vs) (hsl1 : ∀ i ∈ t1.slots, i ∈ vs1) {σ : L2.St} {H : Hp} {Q : VK} (q : tRF T W (compF2 it t0 vs c0 it1 t1 vs1 c1 e) σ H Q) :
    tLc2 (tMI T W it) (gD T t0) (tMT T W0 c0) (tMI T W0 it1) (gD T t1) (tMT T W0 c1) (tM T W0 e) vs vs1 σ H Q := by
  obtain ⟨sd, S, w0, e0, d0, s0, q⟩ := q
  obtain ⟨F, hF⟩ : ∃ F : D → M (List D), F = turn2M t0 vs sd c0 it1 t1 vs1 c1 e := ⟨_, rfl⟩
  refine ⟨sd, S, w0, e0, d0, s0, PG.bnd (k := fun ds => few ds >>= fun ds => comp2M (turn2M t0 vs sd c0 it1 t1 vs1 c1 e) ds) q fun ds S1 J w1 x1 d1 wk h1 => ?_⟩
  have s1 := s0.ext x1
  intro Dl hD
  have nc1 := s1.noC hD
  have hlen : ds.length ≤ 4000 := by
    by_cases hl : ds.length ≤ 4000
    · exact hl
    · rw [bind_ap, few, if_neg hl] at h1; exact h1.elim
  rw [bind_ap, few, if_pos hlen] at h1
  have h1 : PG T (fun c d H' => W c d σ H') (RepN T w0) Q w1 ((comp2M F ds) S1) := by rw [hF]; exact h1
  rw [bind_pure_nil (comp2M _ _)] at h1
  let Pv : Nat → Hp → Prop := fun i H => ∃ w S acc us, w.H = H ∧ Acc T w1 w S Dl acc us ∧ acc.length ≤ i * 4000 ∧
    PG T (fun c d H' => W c d σ H') (RepN T w0) Q w1 ((comp2M F (ds.drop i) >>= fun r => pure (acc ++ r)) S)
  refine ⟨fun i m H => m = ds.length - i ∧ i ≤ ds.length ∧ Pv i H, ⟨ds.length, by simp, Nat.zero_le _, ⟨w1.lam, w1.G, upd w1.H Dl (.lst [])⟩, S1, [], [], rfl, .start d1 hD, Nat.zero_le _, by simpa using h1⟩, ?_⟩
  rintro i m H ⟨rfl, hi, w, S, acc, us, eH, ac, al, pg⟩
  subst eH
  by_cases hlt : i < ds.length
  · refine .inr ⟨wk.go i w S hlt ac.ext.le ac.wd, Pv (i + 1), fun H' p' => ⟨ds.length - (i + 1), by omega, rfl, hlt, p'⟩, fun x H' y => ?_⟩
    obtain ⟨w3, e3, alc, d, hd, rd⟩ := wk.yld i w S x H' hlt ac.ext.le ac.wd y
    subst e3
    have ac3 := ac.step alc.ext (ac.wd.alc alc)
    rw [drop_cons_of hd, comp2M, bind_as] at pg
    simp only [bind_as, pure_bind_] at pg
    obtain ⟨rest, hrest⟩ : ∃ m : M (List D), m = comp2M F (ds.drop (i + 1)) := ⟨_, rfl⟩
    rw [← hrest, hF] at pg
    unfold turn2M at pg
    cases ha : asgT t0 d (wipeS sd vs) with
    | none => rw [ha] at pg; exact pg.elim
    | some sd2 =>
      rw [ha] at pg
      simp only [bind_as] at pg
      refine ⟨w3, S, wipeS sd vs, d, sd2, rfl, ac3.wd, ((s1.ext ac3.ext).wipe _), rd, ha, fun σ2 s2 aw => ⟨away_wipe aw hsl, ?_⟩⟩
      have nc2 := (nc1.wipe vs).asg ha aw
      refine ⟨sd2, S, w3, rfl, ac3.wd, s2, ?_⟩
      refine PG.noexc (W' := fun c d H' => W c d σ H') (PG.bnd2 pg ac3.ext fun b S4 b' w4 e4 d4 hb pg4 => ?_)
      subst hb
      have ac4 := ac3.step e4 d4
      cases b with
      | false =>
        rw [if_neg (by simp)]
        refine ⟨w4, S4, acc, us, rfl, ac4, by omega, ?_⟩
        rw [← hrest]
        simpa [pure_bind_, bind_as] using pg4
      | true =>
        rw [if_pos rfl]
        simp only [if_true, bind_as, pure_bind_] at pg4
        refine ⟨sd2, S4, w4, rfl, d4, s2.ext e4, PG.noexc (W' := fun c d H' => W c d σ H') (PG.bnd2 pg4 ac4.ext fun es S5 J1 w5 e5 d5 wk1 pg5 => ?_)⟩
        have ac5 := ac4.step e5 d5
        have s5 := (s2.ext e4).ext e5
        have hlen1 : es.length ≤ 4000 := by
          by_cases hl : es.length ≤ 4000
          · exact hl
          · rw [bind_ap, few, if_neg hl] at pg5; exact pg5.elim
        rw [bind_ap, few, if_pos hlen1] at pg5
        have pg5 : PG T (fun c d H' => W c d σ H') (RepN T w0) Q w1 ((compM (turnM t1 vs1 sd2 c1 e) es >>= fun r1 => rest >>= fun r => pure (acc ++ (r1 ++ r))) S5) := pg5
        let Pv1 : Nat → Hp → Prop := fun j H => ∃ w S acc us, w.H = H ∧ Acc T w1 w S Dl acc us ∧ Le w5 w ∧ RS T w sd2 σ2 ∧ acc.length ≤ i * 4000 + j ∧
          PG T (fun c d H' => W c d σ H') (RepN T w0) Q w1 ((compM (turnM t1 vs1 sd2 c1 e) (es.drop j) >>= fun r1 => rest >>= fun r => pure (acc ++ (r1 ++ r))) S)
        refine ⟨fun j k H => k = es.length - j ∧ j ≤ es.length ∧ Pv1 j H, ⟨es.length, by simp, Nat.zero_le _, w5, S5, acc, us, rfl, ac5, .refl _, s5, by omega, by simpa using pg5⟩, ?_⟩
        rintro j k H ⟨rfl, hj, w6, S6, acc6, us6, eH, ac6, l6, s6, al6, pg6⟩
        subst eH
        by_cases hjt : j < es.length
        · refine .inr ⟨wk1.go j w6 S6 hjt l6 ac6.wd, Pv1 (j + 1), fun H' p' => ⟨es.length - (j + 1), by omega, rfl, hjt, p'⟩, fun x H' y => ?_⟩
          obtain ⟨w7, e7, alc7, d7, hd7, rd7⟩ := wk1.yld j w6 S6 x H' hjt l6 ac6.wd y
          subst e7
          have ac7 := ac6.step alc7.ext (ac6.wd.alc alc7)
          have l7 := l6.trans alc7.ext.le
          have s7 := s6.ext alc7.ext
          rw [drop_cons_of hd7, compM, bind_as] at pg6
          simp only [bind_as, pure_bind_] at pg6
          obtain ⟨rest1, hrest1⟩ : ∃ m : M (List D), m = compM (turnM t1 vs1 sd2 c1 e) (es.drop (j + 1)) := ⟨_, rfl⟩
          rw [← hrest1] at pg6
          unfold turnM at pg6
          cases ha1 : asgT t1 d7 (wipeS sd2 vs1) with
          | none => rw [ha1] at pg6; exact pg6.elim
          | some sd3 =>
            rw [ha1] at pg6
            simp only [bind_as] at pg6
            refine ⟨w7, S6, wipeS sd2 vs1, d7, sd3, rfl, ac7.wd, s7.wipe _, rd7, ha1, fun σ3 s3 aw1 => ⟨away_wipe aw1 hsl1, ?_⟩⟩
            refine ⟨sd3, S6, w7, rfl, ac7.wd, s3, ?_⟩
            refine PG.noexc (W' := fun c d H' => W c d σ H') (PG.bnd2 pg6 ac7.ext fun b S8 b' w8 e8 d8 hb8 pg8 => ?_)
            subst hb8
            have ac8 := ac7.step e8 d8
            cases b with
            | false =>
              rw [if_neg (by simp)]
              refine ⟨w8, S8, acc6, us6, rfl, ac8, l7.trans e8.le, s7.ext e8, by omega, ?_⟩
              rw [← hrest1]
              simpa [pure_bind_, bind_as] using pg8
            | true =>
              rw [if_pos rfl]
              simp only [if_true, bind_as, pure_bind_] at pg8
              refine ⟨sd3, S8, w8, rfl, d8, s3.ext e8, PG.noexc (W' := fun c d H' => W c d σ H') (PG.bnd2 pg8 ac8.ext fun x S9 y w9 e9 d9 r9 pg9 => ?_)⟩
              have ac9 := ac8.step e9 d9
              have hl9 : us6.length < sizeLine := by
                rw [← ac9.rep.length, sizeLine_eq]
                have hj2 : j < 4000 := by omega
                have hi2 : i < 4000 := by omega
                have : i * 4000 ≤ 3999 * 4000 := Nat.mul_le_mul_right _ (by omega)
                omega
              have ac10 := ac9.push r9
              have sp : RS T ⟨w9.lam, w9.G, upd w9.H Dl (.lst (us6 ++ [y]))⟩ sd2 σ2 := ((s7.ext e8).ext e9).poke nc2
              refine ⟨us6, ac9.at_, hl9, _, S9, _, _, rfl, ac10, ⟨((l7.trans e8.le).trans e9.le).lam, ((l7.trans e8.le).trans e9.le).g⟩, sp, by simp; omega, ?_⟩
              rw [← hrest1]
              simpa [List.append_assoc] using pg9
        · have hj' : j = es.length := by omega
          subst hj'
          refine .inl ⟨wk1.stop w6 S6 l6 ac6.wd, w6, S6, acc6, us6, rfl, ac6, by omega, ?_⟩
          rw [List.drop_length] at pg6
          rw [← hrest]
          simpa [compM, pure_bind_] using pg6
  · have hi' : i = ds.length := by omega
    subst hi'
    refine .inl ⟨wk.stop w S ac.ext.le ac.wd, ?_⟩
    rw [List.drop_length] at pg
    have pg' : PG T (fun c d H' => W c d σ H') (RepN T w0) Q w1 (Res.ok (acc ++ []) S) := pg
    rw [List.append_nil] at pg'
    have h00 : w0.H Dl = none := Classical.byContradiction fun z => x1.there Dl z ac.new
    exact pg' (.ref Dl) w ac.ext ac.wd ⟨Dl, us, rfl, h00, ac.at_, ac.ng, ac.nl, ac.rep⟩
theorem jf_comp2 (l : Lk T X) {elt tg iter tg1 iter1 : Expr} {ifs ifs1 : List Expr} {scope : Scope} {own : List (Str × Nat)} {vs1 : List Nat} {pos : Pos} {it it1 : List SV → M (List D)} {t t1 : Tg} {c c1 : List SV → M Bool} {e : List SV → M D}
    (hc : X.calm = true) (hN : X.N.Nodup) (hi : PI X tg iter (tMI T W it)) (ok : BlkOk X.N X.env.scope scope own) (hv : ∀ i ∈ vs1, i ∈ own.map (·.2)) (hsl : ∀ i ∈ t.slots, i ∈ own.map (·.2)) (hsl1 : ∀ i ∈ t1.slots, i ∈ vs1)
    (hg : ∀ (s : Shared) (H : Hp) (C : Addr) (cl : List (Str × Addr)) (fp : List Addr), L2.PG (X.blk s H scope (compEnvC scope cl C X.env) fp) tg (gD T t)) (ht : ∀ (s : Shared) (H : Hp) (C : Addr) (cl : List (Str × Addr)) (fp : List Addr), PTs (X.blk s H scope (compEnvC scope cl C X.env) fp) ifs (tMT T W0 c))
    (hi1 : ∀ (s : Shared) (H : Hp) (C : Addr) (cl : List (Str × Addr)) (fp : List Addr), PI (X.blk s H scope (compEnvC scope cl C X.env) fp) tg1 iter1 (tMI T W0 it1))
    (hg1 : ∀ (s : Shared) (H : Hp) (C : Addr) (cl : List (Str × Addr)) (fp : List Addr), L2.PG (X.blk s H scope (compEnvC scope cl C X.env) fp) tg1 (gD T t1)) (ht1 : ∀ (s : Shared) (H : Hp) (C : Addr) (cl : List (Str × Addr)) (fp : List Addr), PTs (X.blk s H scope (compEnvC scope cl C X.env) fp) ifs1 (tMT T W0 c1))
    (he : ∀ (s : Shared) (H : Hp) (C : Addr) (cl : List (Str × Addr)) (fp : List Addr), PE (X.blk s H scope (compEnvC scope cl C X.env) fp) elt (tM T W0 e)) (hs : ∀ x, foldedSetIterable iter X.env x = pure x) (hs1 : ∀ env x, foldedSetIterable iter1 env x = pure x) :
    PE X (.ListComp elt [⟨tg, iter, ifs, 0⟩, ⟨tg1, iter1, ifs1, 0⟩] scope pos) (tRF T W (compF2 it t (own.map (·.2)) c it1 t1 vs1 c1 e)) :=
  PE.imp (pe_lc2 hc hN hi ok hv hg ht hi1 hg1 ht1 he hs hs1) fun _ _ _ q => comp_read2 hsl hsl1 q
end
end Q
set_option Elab.async false
set_option linter.all false
set_option maxRecDepth 100000
set_option maxHeartbeats 4000000
namespace Q
open PySem PySem.Spec PyProof.Rows L2

inductive So where
  | nx (sd : List SV) (S : List MO)
  | rt (d : D) (S : List MO)
  | ex (x : Ex) (sd : List SV) (S : List MO)
  | bad
abbrev SF := List SV → List MO → So
def ofM {α : Type} (m : List SV → M α) (k : α → SF) : SF := fun sd S => match m sd S with
  | .ok a S1 => k a sd S1
  | .exc x S1 => .ex x sd S1
  | .bad => .bad
def seqF (f g : SF) : SF := fun sd S => match f sd S with
  | .nx sd1 S1 => g sd1 S1
  | .rt d S1 => .rt d S1
  | .ex x sd1 S1 => .ex x sd1 S1
  | .bad => .bad
def nxF : SF := fun sd S => .nx sd S
/-- what its slots alone hold is new -/
def OwnN (e : Wo) (sd : List SV) (σ : L2.St) : Prop := ∀ (i : Nat) (sv : SV) (a : Addr), sd[i]? = some sv → sv.isOwn = true → σ[i]? = some (some (.ref a)) → e.H a = none
structure Sit (T : Tb) (e w : Wo) (sd : List SV) (S : List MO) (σ : L2.St) : Prop where
  ext : Ext e w
  wd : Wd T w S
  rs : RS T w sd σ
  own : OwnN e sd σ
def PS' (T : Tb) (e : Wo) (W : WX) (Dn : Ends) (w : Wo) : So → Prop
  | .nx sd S => ∀ σ w', Le w w' → Sit T e w' sd S σ → Dn.nx σ w'.H
  | .rt d S => ∀ v w', Ext e w' → Wd T w' S → Rep T w'.lam w'.G d v → Dn.rt v w'.H
  | .ex x sd S => ∀ cls d σ w', Sit T e w' sd S σ → ExR T w' x cls d → W cls d σ w'.H
  | .bad => False
theorem PS'.shift {T : Tb} {e w w1 : Wo} {W : WX} {Dn : Ends} {r : So} (h : PS' T e W Dn w r) (l : Le w w1) : PS' T e W Dn w1 r := by
  cases r with
  | nx sd S => exact fun σ w' l' s => h σ w' (l.trans l') s
  | rt d S => exact h
  | ex x sd S => exact h
  | bad => exact h
def tS (T : Tb) (e : Wo) (W : WX) (f : SF) : TS := fun Dn σ H => ∃ sd S w, w.H = H ∧ Sit T e w sd S σ ∧ PS' T e W Dn w (f sd S)
theorem Sit.step {T : Tb} {e w w' : Wo} {sd : List SV} {S S' : List MO} {σ : L2.St} (s : Sit T e w sd S σ) (x : Ext w w') (d : Wd T w' S') : Sit T e w' sd S' σ := ⟨s.ext.trans x, d, s.rs.ext x, s.own⟩
section
variable {X : Cx} {T : Tb} {W : WX} {e : Wo}
/-- a statement's first expression -/
theorem st_R {α β : Type} {R : Wo → α → β → Prop} {m : List SV → M α} {k : α → SF} {Dn : Ends} {σ : L2.St} {H : Hp} {Q1 : β → Hp → Prop} (h : tS T e W (ofM m k) Dn σ H)
    (hq : ∀ a sd S1 b w1, Sit T e w1 sd S1 σ → R w1 a b → PS' T e W Dn w1 (k a sd S1) → Q1 b w1.H) : tR T W R m σ H Q1 := by
  obtain ⟨sd, S, w, e1, s, q⟩ := h
  refine ⟨sd, S, w, e1, s.wd, s.rs, ?_⟩
  unfold ofM at q
  cases r : m sd S with
  | ok a S1 => rw [r] at q; exact fun b w1 x d rr => hq a sd S1 b w1 (s.step x d) rr (q.shift x.le)
  | exc x S1 => rw [r] at q; exact fun cls d w1 x d1 rr => q cls d σ w1 (s.step x d1) rr
  | bad => rw [r] at q; exact q
theorem st_at {α β : Type} {R : Wo → α → β → Prop} {m : List SV → M α} {k : α → SF} {Dn : Ends} {σ : L2.St} {Q1 : β → Hp → Prop} {sd : List SV} {S : List MO} {w : Wo} (s : Sit T e w sd S σ) (q : PS' T e W Dn w (ofM m k sd S))
    (hq : ∀ a S1 b w1, Ext w w1 → Sit T e w1 sd S1 σ → R w1 a b → PS' T e W Dn w1 (k a sd S1) → Q1 b w1.H) : tR T W R m σ w.H Q1 := by
  refine ⟨sd, S, w, rfl, s.wd, s.rs, ?_⟩
  unfold ofM at q
  cases r : m sd S with
  | ok a S1 => rw [r] at q; exact fun b w1 x d rr => hq a S1 b w1 x (s.step x d) rr (q.shift x.le)
  | exc x S1 => rw [r] at q; exact fun cls d w1 x d1 rr => q cls d σ w1 (s.step x d1) rr
  | bad => rw [r] at q; exact q
theorem st_F {m : List SV → M (List D)} {k : List D → SF} {Dn : Ends} {σ : L2.St} {H : Hp} {Q1 : VK} (h : tS T e W (ofM m k) Dn σ H)
    (hq : ∀ ds sd S1 a vs w0 w1, Ext w0 w1 → RS T w0 sd σ → Sit T e w1 sd S1 σ → w0.H a = none → w1.H a = some (.lst vs) → w1.G a = none → a ∉ w1.lam → RepA T w1.lam w1.G ds vs → e.H a = none → PS' T e W Dn w1 (k ds sd S1) → Q1 (.ref a) w1.H) : tRF T W m σ H Q1 := by
  obtain ⟨sd, S, w, e1, s, q⟩ := h
  refine ⟨sd, S, w, e1, s.wd, s.rs, ?_⟩
  unfold ofM at q
  cases r : m sd S with
  | ok ds S1 =>
    rw [r] at q
    intro v w1 x d ⟨a, vs, ev, h0, h1, h2, h3, h4⟩
    subst ev
    exact hq ds sd S1 a vs w w1 x s.rs (s.step x d) h0 h1 h2 h3 h4 (Classical.byContradiction fun z => s.ext.there a z h0) (q.shift x.le)
  | exc x S1 => rw [r] at q; exact fun cls d w1 x d1 rr => q cls d σ w1 (s.step x d1) rr
  | bad => rw [r] at q; exact q
theorem jss_nil : PSs X [] (tS T e W nxF) := PSs.imp pss_nil fun Dn σ H ⟨sd, S, w, e1, s, q⟩ => by
  subst e1
  exact q σ w (.refl w) s
theorem jss_cons {st : Stmt} {rest : List Stmt} {f g : SF} (h1 : PS X st (tS T e W f)) (h2 : PSs X rest (tS T e W g)) : PSs X (st :: rest) (tS T e W (seqF f g)) := PSs.imp (pss_cons h1 h2) fun Dn σ H ⟨sd, S, w, e1, s, q⟩ => by
  refine ⟨sd, S, w, e1, s, ?_⟩
  unfold seqF at q
  cases r : f sd S with
  | nx sd1 S1 => rw [r] at q; exact fun σ1 w1 l s1 => ⟨sd1, S1, w1, rfl, s1, q.shift l⟩
  | rt d S1 => rw [r] at q; exact q
  | ex x sd1 S1 => rw [r] at q; exact q
  | bad => rw [r] at q; exact q
theorem js_pass {pos : Pos} : PS X (.Pass pos) (tS T e W nxF) := PS.imp ps_pass fun Dn σ H ⟨sd, S, w, e1, s, q⟩ => by
  subst e1
  exact q σ w (.refl w) s
theorem js_expr {a : Expr} {pos : Pos} {f : List SV → M D} (h : PE X a (tM T W f)) (hs : swapsWith a none pos.line X.env = pure false) : PS X (.Expr a pos) (tS T e W (ofM f fun _ => nxF)) :=
  PS.imp (ps_expr h hs) fun Dn σ H q => st_R (k := fun _ => nxF) q fun d sd S1 b w1 s _ p => p σ w1 (.refl w1) s
def retF (d : D) : SF := fun _ S => .rt d S
theorem js_ret {a : Expr} {pos : Pos} {f : List SV → M D} (h : PE X a (tM T W f)) : PS X (.Return (some a) pos) (tS T e W (ofM f retF)) :=
  PS.imp (ps_ret h) fun Dn σ H q => st_R (k := retF) q fun d sd S1 b w1 s r p => p b w1 s.ext s.wd r
theorem js_retN {pos : Pos} : PS X (.Return none pos) (tS T e W (retF .non)) := PS.imp ps_retN fun Dn σ H ⟨sd, S, w, e1, s, q⟩ => by
  subst e1
  exact q .non w s.ext s.wd .non
def setF (i : Nat) (d : D) : SF := fun sd S => .nx (sd.set i (.val d)) S
def ownF (i : Nat) (ds : List D) : SF := fun sd S => .nx (sd.set i (.own ds)) S
theorem OwnN.setv {sd : List SV} {σ : L2.St} (h : OwnN e sd σ) (i : Nat) (d : D) (v : V) : OwnN e (sd.set i (.val d)) (σ.set i (some v)) := fun j sv a h1 h2 h3 => by
  have n : i ≠ j := fun z => by
    subst z
    rw [List.getElem?_set_self'] at h1
    cases q : sd[i]? with
    | none => rw [q] at h1; cases h1
    | some z => rw [q] at h1; cases h1; cases h2
  rw [List.getElem?_set_ne n] at h1 h3
  exact h j sv a h1 h2 h3
theorem Sit.setv {w : Wo} {sd : List SV} {S : List MO} {σ : L2.St} (s : Sit T e w sd S σ) (i : Nat) {d : D} {v : V} (r : Rep T w.lam w.G d v) : Sit T e w (sd.set i (.val d)) S (σ.set i (some v)) := ⟨s.ext, s.wd, s.rs.setv i r, s.own.setv i d v⟩
theorem RS.seto {w : Wo} {sd : List SV} {σ : L2.St} (r : RS T w sd σ) (i : Nat) {ds : List D} {a : Addr} {vs : List V} (h1 : w.H a = some (.lst vs)) (h2 : w.G a = none) (h3 : a ∉ w.lam) (h4 : RepA T w.lam w.G ds vs) (n : NoC (sd.set i .un) (σ.set i none) a) : RS T w (sd.set i (.own ds)) (σ.set i (some (.ref a))) := by
  have other : ∀ j sv, i ≠ j → sd[j]? = some sv → sv.isOwn = true → σ[j]? ≠ some (some (.ref a)) := fun j sv nj h o => by
    have q := n j sv (by rw [List.getElem?_set_ne nj]; exact h) o
    rw [List.getElem?_set_ne nj] at q
    exact q
  refine ⟨by simp [r.len], fun j sv ov g1 g2 => ?_, fun j k sj sk b hjk g1 g2 o1 o2 g3 g4 => ?_⟩
  · by_cases z : i = j
    · subst z
      rw [List.getElem?_set_self'] at g1 g2
      cases q : sd[i]? with
      | none => rw [q] at g1; cases g1
      | some y =>
        rw [q] at g1
        obtain ⟨o', ho', _⟩ := r.get q
        rw [ho'] at g2
        cases g1; cases g2
        exact ⟨a, vs, rfl, h1, h2, h3, h4⟩
    · rw [List.getElem?_set_ne z] at g1 g2
      exact r.at_ j sv ov g1 g2
  · by_cases z : i = j
    · subst z
      have nk : i ≠ k := hjk
      rw [List.getElem?_set_ne nk] at g2 g4
      rw [List.getElem?_set_self'] at g3
      cases q : σ[i]? with
      | none => rw [q] at g3; cases g3
      | some y =>
        rw [q] at g3
        cases g3
        exact other k sk nk g2 o2 g4
    · rw [List.getElem?_set_ne z] at g1 g3
      by_cases z2 : i = k
      · subst z2
        rw [List.getElem?_set_self'] at g4
        cases q : σ[i]? with
        | none => rw [q] at g4; cases g4
        | some y =>
          rw [q] at g4
          cases g4
          exact other j sj z g1 o1 g3
      · rw [List.getElem?_set_ne z2] at g2 g4
        exact r.ap j k sj sk b hjk g1 g2 o1 o2 g3 g4
theorem NoC.un {sd : List SV} {σ : L2.St} {a : Addr} (h : NoC sd σ a) (i : Nat) : NoC (sd.set i .un) (σ.set i none) a := fun j sv hi ho => by
  by_cases z : i = j
  · subst z
    rw [List.getElem?_set_self'] at hi
    cases q : sd[i]? with
    | none => rw [q] at hi; cases hi
    | some z => rw [q] at hi; cases hi; cases ho
  · rw [List.getElem?_set_ne z] at hi
    rw [List.getElem?_set_ne z]
    exact h j sv hi ho
theorem OwnN.seto {sd : List SV} {σ : L2.St} (h : OwnN e sd σ) (i : Nat) (ds : List D) {a : Addr} (ha : e.H a = none) : OwnN e (sd.set i (.own ds)) (σ.set i (some (.ref a))) := fun j sv b h1 h2 h3 => by
  by_cases z : i = j
  · subst z
    rw [List.getElem?_set_self'] at h3
    cases q : σ[i]? with
    | none => rw [q] at h3; cases h3
    | some y => rw [q] at h3; cases h3; exact ha
  · rw [List.getElem?_set_ne z] at h1 h3
    exact h j sv b h1 h2 h3
/-- a slot gets a new list that it alone holds -/
theorem st_own {m : List SV → M (List D)} {i : Nat} {Dn : Ends} {σ : L2.St} {H : Hp} (h : tS T e W (ofM m (ownF i)) Dn σ H) : tRF T W m σ H fun x H1 => Dn.nx (σ.set i (some x)) H1 :=
  st_F h fun ds sd S1 a vs w0 w1 x r0 s h0 h1 h2 h3 h4 h5 p => p _ w1 (.refl w1) ⟨s.ext, s.wd, s.rs.seto i h1 h2 h3 h4 ((r0.noC h0).un i), s.own.seto i ds h5⟩
/-- .. a value -/
theorem st_val {m : List SV → M D} {i : Nat} {Dn : Ends} {σ : L2.St} {H : Hp} (h : tS T e W (ofM m (setF i)) Dn σ H) : tM T W m σ H fun x H1 => Dn.nx (σ.set i (some x)) H1 :=
  st_R (k := setF i) h fun d sd S1 b w1 s r p => p _ w1 (.refl w1) (s.setv i r)
theorem js_set {i : Nat} {x : Str} {a : Expr} {pos pos' : Pos} {f : List SV → M D} (hN : X.N.Nodup) (hi : X.N[i]? = some x) (hx : Loc X.env.scope x) (h : PE X a (tM T W f)) (hs : swapsWith a (some (.Name x pos')) pos.line X.env = pure false) (hf : X.fn x = true ∨ X.env.scope.names.lookup x = some .local) :
    PS X (.Assign [.Name x pos'] a pos) (tS T e W (ofM f (setF i))) := PS.imp (ps_set hN hi hx h hs hf) fun Dn σ H q => st_val q
theorem js_own {i : Nat} {x : Str} {a : Expr} {pos pos' : Pos} {f : List SV → M (List D)} (hN : X.N.Nodup) (hi : X.N[i]? = some x) (hx : Loc X.env.scope x) (h : PE X a (tRF T W f)) (hs : swapsWith a (some (.Name x pos')) pos.line X.env = pure false) (hf : X.fn x = true ∨ X.env.scope.names.lookup x = some .local) :
    PS X (.Assign [.Name x pos'] a pos) (tS T e W (ofM f (ownF i))) := PS.imp (ps_set hN hi hx h hs hf) fun Dn σ H q => st_own q
/-- a target of several names -/
def asgF (t : Tg) (d : D) : SF := fun sd S => match asgT t d sd with
  | some sd' => .nx sd' S
  | none => .bad
theorem OwnN.asg {sd sd' : List SV} {σ σ' : L2.St} {t : Tg} {d : D} (h : OwnN e sd σ) (q : asgT t d sd = some sd') (aw : Away t.slots σ σ') : OwnN e sd' σ' := fun i sv a hi ho ha => by
  obtain ⟨h1, h2⟩ := asgT_own t d sd sd' q i sv hi ho
  rw [aw.2 i h2] at ha
  exact h i sv a h1 ho ha
theorem js_asg {t : Tg} {tg a : Expr} {pos : Pos} {f : List SV → M D} (h : PE X a (tM T W f)) (hg : L2.PG X tg (gD T t)) (hs : swapsWithSole [tg] a pos.line X.env = pure false) (hw : swappedStores [tg] a X.env = pure none) (h1 : List.map (fun x => x.snd) (assignEach [tg] X.env) = [assign tg X.env]) :
    PS X (.Assign [tg] a pos) (tS T e W (ofM f (asgF t))) := PS.imp (ps_asg h hg hs hw h1) fun Dn σ H q => by
  refine st_R (k := asgF t) q fun d sd S1 b w1 s r p => ?_
  unfold asgF at p
  cases ha : asgT t d sd with
  | none => rw [ha] at p; exact p.elim
  | some sd' =>
    rw [ha] at p
    exact ⟨w1, S1, sd, d, sd', rfl, s.wd, s.rs, r, ha, fun σ' s' aw => p σ' w1 (.refl w1) ⟨s.ext, s.wd, s', s.own.asg ha aw⟩⟩
def ifF (f g : SF) (b : Bool) : SF := if b then f else g
theorem js_if {c : Expr} {a b : List Stmt} {pos : Pos} {m : List SV → M Bool} {f g : SF} (hc : PT X c (tMT T W m)) (ha : PSs X a (tS T e W f)) (hb : PSs X b (tS T e W g)) : PS X (.If c a b pos) (tS T e W (ofM m (ifF f g))) :=
  PS.imp (ps_if hc ha hb) fun Dn σ H q => by
    refine st_R (k := ifF f g) q fun b sd S1 b' w1 s r p => ?_
    subst r
    unfold ifF at p
    cases b
    · exact ⟨sd, S1, w1, rfl, s, p⟩
    · exact ⟨sd, S1, w1, rfl, s, p⟩
theorem RS.frzd {w : Wo} {sd : List SV} {σ : L2.St} (r : RS T w sd σ) {i : Nat} {sv0 : SV} {a : Addr} {o : HO} {d : D} (hi : sd[i]? = some sv0) (h0 : sv0.isOwn = true) (ho : σ[i]? = some (some (.ref a))) (h2 : w.G a = none) (hd : Rep T w.lam (upd w.G a o) d (.ref a)) : RS T ⟨w.lam, upd w.G a o, upd w.H a o⟩ (sd.set i (.val d)) σ := by
  have le : Le w ⟨w.lam, upd w.G a o, upd w.H a o⟩ := ⟨⟨[], by simp⟩, fun b u hb => by
    show upd w.G a o b = some u
    rw [upd_ne (ne_of_none hb h2)]; exact hb⟩
  refine ⟨by simp [r.len], fun j sv ov g1 g2 => ?_, fun j k sj sk b hjk g1 g2 o1 o2 g3 g4 => ?_⟩
  · by_cases z : i = j
    · subst z
      rw [List.getElem?_set_self', hi] at g1
      rw [ho] at g2
      cases g1; cases g2
      exact ⟨.ref a, rfl, hd⟩
    · rw [List.getElem?_set_ne z] at g1
      have q := r.at_ j sv ov g1 g2
      cases sv with
      | un => trivial
      | val d => obtain ⟨v, e2, r⟩ := q; exact ⟨v, e2, r.le le⟩
      | raw vv => exact q
      | own dd =>
        obtain ⟨b, us, e2, k1, k2, k3, k4⟩ := q
        have nb : b ≠ a := fun y => by
          subst y; subst e2
          exact r.ap i j _ _ b z hi g1 h0 rfl ho g2
        exact ⟨b, us, e2, by show upd w.H a o b = _; rw [upd_ne nb]; exact k1, by show upd w.G a o b = none; rw [upd_ne nb]; exact k2, k3, k4.le le⟩
      | dic kb ks ws =>
        obtain ⟨b, u, kv, vv, e2, k1, k5, k2, k3, k4, k6⟩ := q
        have nb : b ≠ a := fun y => by
          subst y; subst e2
          exact r.ap i j _ _ b z hi g1 h0 rfl ho g2
        exact ⟨b, u, kv, vv, e2, by show upd w.H a o b = _; rw [upd_ne nb]; exact k1, k5, by show upd w.G a o b = none; rw [upd_ne nb]; exact k2, k3, k4.le le, k6.le le⟩
  · have n1 : i ≠ j := fun z => by
      subst z
      rw [List.getElem?_set_self', hi] at g1
      cases g1; cases o1
    have n2 : i ≠ k := fun z => by
      subst z
      rw [List.getElem?_set_self', hi] at g2
      cases g2; cases o2
    rw [List.getElem?_set_ne n1] at g1
    rw [List.getElem?_set_ne n2] at g2
    exact r.ap j k sj sk b hjk g1 g2 o1 o2 g3 g4
theorem OwnN.val_ {sd : List SV} {σ : L2.St} (h : OwnN e sd σ) (i : Nat) (d : D) : OwnN e (sd.set i (.val d)) σ := fun j sv b h1 h2 h3 => by
  by_cases z : i = j
  · subst z
    rw [List.getElem?_set_self'] at h1
    cases q : sd[i]? with
    | none => rw [q] at h1; cases h1
    | some y => rw [q] at h1; cases h1; cases h2
  · rw [List.getElem?_set_ne z] at h1
    exact h j sv b h1 h2 h3
theorem codeO_data {c : Addr} {q : Str} {φ : Heap → Prop} (h : HO.ext φ = LamX.CodeO c q) (hd : ∀ h : Heap, φ h → ∃ o es ep, h.get? c = some o ∧ o.data = .dict es ep) : False := by
  unfold LamX.CodeO at h
  have e := HO.ext.inj h
  let ob : Obj := ⟨.none, none, .fields #[.none, .str q default], #[]⟩
  have hg : (Heap.mk (Array.replicate (c + 1) ob) {}).get? c = some ob := by
    unfold Heap.get?
    simp [ob]
  have y : φ (Heap.mk (Array.replicate (c + 1) ob) {}) := by
    rw [e]
    exact ⟨ob, _, default, hg, rfl, rfl⟩
  obtain ⟨o, es, ep, h1, h2⟩ := hd _ y
  rw [hg] at h1
  cases h1
  cases h2
theorem dicSh_code {P : Program} {w : World} {a : Addr} {b : Bool} {u : HO} {ks : List D} {kv vv : List V} (h : DicSh P w a b u ks kv vv) : (∀ ps, u ≠ .tbl ps) ∧ (∀ x, u ≠ .own x) ∧ (∀ q, u ≠ LamX.CodeO a q) ∧ Mut (some u) := by
  cases h with
  | int kvs => exact ⟨(fun ps z => by cases z), (fun x z => by cases z), (fun q z => by unfold LamX.CodeO at z; cases z), True.intro⟩
  | tup xs ks hm hk =>
    refine ⟨(fun ps z => by cases z), (fun x z => by cases z), (fun q z => ?_), True.intro⟩
    unfold DicN at z
    refine codeO_data z fun h y => ?_
    obtain ⟨_, _, us, _, _, o, es, ep, h1, _, h3, _⟩ := y
    exact ⟨o, es, ep, h1, h3⟩
/-- what a slot alone holds is frozen -/
def frzF (i : Nat) (f : SF) : SF := fun sd S => match sd[i]? with
  | some (.own ds) => f (sd.set i (.val (.lst ds))) S
  | some (.dic b ks vs) => f (sd.set i (.val (.dct b ks vs))) S
  | _ => f sd S
theorem js_frz {st : Stmt} {f : SF} (i : Nat) (h : PS X st (tS T e W f)) : PS X st (tS T e W (frzF i f)) := by
  refine ⟨fun pins s0 σ H Dn I t => ?_⟩
  obtain ⟨sd, S, w, e1, s, q⟩ := t
  by_cases hd : ∃ b ks vs, sd[i]? = some (.dic b ks vs)
  · obtain ⟨b, ks, vs, hd⟩ := hd
    unfold frzF at q
    rw [hd] at q
    obtain ⟨ov, ho, a, u, kv, vv, ea, h1, h2, h3, h4, h5, h6⟩ := s.rs.get hd
    subst ea e1
    have en := s.own i _ a hd rfl ho
    obtain ⟨c1, c2, c3, c4⟩ := dicSh_code h2
    obtain ⟨od, I'⟩ := I.lock h1 c4
    have le : Le w ⟨w.lam, upd w.G a (.frz od u), upd w.H a (.frz od u)⟩ := ⟨⟨[], by simp⟩, fun b o hb => by
      show upd w.G a (.frz od u) b = some o
      rw [upd_ne (ne_of_none hb h3)]; exact hb⟩
    have rr : Rep T w.lam (upd w.G a (.frz od u)) (.dct b ks vs) (.ref a) := .dct upd_same h2 (h5.le le) (h6.le le)
    have x1 : Ext e ⟨w.lam, w.G, upd w.H a (.frz od u)⟩ := s.ext.poke en
    have d1 : Wd T ⟨w.lam, w.G, upd w.H a (.frz od u)⟩ S := s.wd.poke h1 h3 h4 c1 c2 c3
    have d2 : Wd T ⟨w.lam, upd w.G a (.frz od u), upd w.H a (.frz od u)⟩ S := d1.freeze upd_same h4 (fun _ z => by cases z) (fun _ z => by cases z)
    exact h.run pins s0 σ _ Dn I' ⟨sd.set i (.val (.dct b ks vs)), S, ⟨w.lam, upd w.G a (.frz od u), upd w.H a (.frz od u)⟩, rfl, ⟨x1.freeze en h3, d2, s.rs.frzd hd rfl ho h3 rr, s.own.val_ i _⟩, q.shift le⟩
  refine h.run pins s0 σ H Dn I ?_
  unfold frzF at q
  cases hi : sd[i]? with
  | none => rw [hi] at q; exact ⟨sd, S, w, e1, s, q⟩
  | some sv =>
    rw [hi] at q
    cases sv with
    | un => exact ⟨sd, S, w, e1, s, q⟩
    | val d => exact ⟨sd, S, w, e1, s, q⟩
    | raw vv => exact ⟨sd, S, w, e1, s, q⟩
    | dic b ks vs => exact absurd ⟨b, ks, vs, hi⟩ hd
    | own ds =>
      obtain ⟨ov, ho, a, vs, ea, h1, h2, h3, h4⟩ := s.rs.get hi
      subst ea
      have ea := s.own i _ a hi rfl ho
      have le : Le w ⟨w.lam, upd w.G a (.lst vs), w.H⟩ := ⟨⟨[], by simp⟩, fun b u hb => by
        show upd w.G a (.lst vs) b = some u
        rw [upd_ne (ne_of_none hb h2)]; exact hb⟩
      have hset : σ.set i (some (.ref a)) = σ := by
        apply List.ext_getElem?
        intro j
        by_cases z : i = j
        · subst z
          rw [List.getElem?_set_self', ho]; rfl
        · rw [List.getElem?_set_ne z]
      refine ⟨sd.set i (.val (.lst ds)), S, ⟨w.lam, upd w.G a (.lst vs), w.H⟩, e1, ⟨s.ext.freeze ea h2, s.wd.freeze h1 h3 (fun _ z => by cases z) (fun _ z => by cases z), ?_, ?_⟩, q.shift le⟩
      · refine ⟨by simp [s.rs.len], fun j sv ov g1 g2 => ?_, fun j k sj sk b hjk g1 g2 o1 o2 g3 g4 => ?_⟩
        · by_cases z : i = j
          · subst z
            rw [List.getElem?_set_self', hi] at g1
            rw [ho] at g2
            cases g1; cases g2
            exact ⟨.ref a, rfl, .lst (.inl upd_same) (h4.le le)⟩
          · rw [List.getElem?_set_ne z] at g1
            have q := s.rs.at_ j sv ov g1 g2
            cases sv with
            | un => trivial
            | val d => obtain ⟨v, e2, r⟩ := q; exact ⟨v, e2, r.le le⟩
            | raw vv => exact q
            | own dd =>
              obtain ⟨b, us, e2, k1, k2, k3, k4⟩ := q
              have nb : b ≠ a := fun y => by
                subst y; subst e2
                exact s.rs.ap i j _ _ b z hi g1 rfl rfl ho g2
              exact ⟨b, us, e2, k1, by show upd w.G a (.lst vs) b = none; rw [upd_ne nb]; exact k2, k3, k4.le le⟩
            | dic kb ks ws =>
              obtain ⟨b, u, kv, vv, e2, k1, k5, k2, k3, k4, k6⟩ := q
              have nb : b ≠ a := fun y => by
                subst y; subst e2
                exact s.rs.ap i j _ _ b z hi g1 rfl rfl ho g2
              exact ⟨b, u, kv, vv, e2, k1, k5, by show upd w.G a (.lst vs) b = none; rw [upd_ne nb]; exact k2, k3, k4.le le, k6.le le⟩
        · have n1 : i ≠ j := fun z => by
            subst z
            rw [List.getElem?_set_self', hi] at g1
            cases g1; cases o1
          have n2 : i ≠ k := fun z => by
            subst z
            rw [List.getElem?_set_self', hi] at g2
            cases g2; cases o2
          rw [List.getElem?_set_ne n1] at g1
          rw [List.getElem?_set_ne n2] at g2
          exact s.rs.ap j k sj sk b hjk g1 g2 o1 o2 g3 g4
      · have := s.own.setv i (.lst ds) (.ref a)
        rw [hset] at this
        exact this
end
end Q
set_option Elab.async false
set_option linter.all false
set_option maxRecDepth 100000
set_option maxHeartbeats 4000000
namespace Q
open PySem PySem.Spec PyProof.Rows L2
def forF (t : Tg) (body : SF) : List D → SF
  | [], sd, S => .nx sd S
  | d :: ds, sd, S => match asgT t d sd with
    | none => .bad
    | some sd1 => match body sd1 S with
      | .nx sd2 S2 => forF t body ds sd2 S2
      | .rt d S2 => .rt d S2
      | .ex x sd2 S2 => .ex x sd2 S2
      | .bad => .bad
def whileF (c : List SV → M Bool) (body : SF) : Nat → SF
  | 0, _, _ => .bad
  | n + 1, sd, S => match c sd S with
    | .ok true S1 => match body sd S1 with
      | .nx sd2 S2 => whileF c body n sd2 S2
      | .rt d S2 => .rt d S2
      | .ex x sd2 S2 => .ex x sd2 S2
      | .bad => .bad
    | .ok false S1 => .nx sd S1
    | .exc x S1 => .ex x sd S1
    | .bad => .bad
section
variable {X : Cx} {T : Tb} {W : WX} {e : Wo}
theorem js_for {t : Tg} {tg iter : Expr} {body : List Stmt} {pos : Pos} {it : List SV → M (List D)} {f : SF} (hp : PassesOwn (model X.prog X.w) X.A X.env X.xe) (hc : X.calm = true) (hi : PI X tg iter (tMI T W it)) (hg : L2.PG X tg (gD T t)) (hb : PSs X body (tS T e W f))
    (hs : ∀ x, foldedSetIterable iter X.env x = pure x) : PS X (.For tg iter body [] pos) (tS T e W (ofM it (forF t f))) := PS.imp (ps_for hp hc hi hg hb hs) fun Dn σ H q => by
  refine st_R (k := forF t f) q fun ds sd S1 J w1 s1 wk p => ?_
  let Pv : Nat → L2.St → Hp → Prop := fun i σ H => ∃ w sd S, w.H = H ∧ Le w1 w ∧ Sit T e w sd S σ ∧ PS' T e W Dn w1 (forF t f (ds.drop i) sd S)
  refine ⟨fun i m σ H => m = ds.length - i ∧ i ≤ ds.length ∧ Pv i σ H, ⟨ds.length, by simp, Nat.zero_le _, w1, sd, S1, rfl, .refl _, s1, by simpa using p⟩, ?_⟩
  rintro i m σ H ⟨rfl, hi, w, sd, S, eH, l, s, p⟩
  subst eH
  by_cases hlt : i < ds.length
  · refine .inr ⟨wk.go i w S hlt l s.wd, Pv (i + 1), fun σ' H' p' => ⟨ds.length - (i + 1), by omega, rfl, hlt, p'⟩, fun x H' y => ?_⟩
    obtain ⟨w3, e3, alc, d, hd, rd⟩ := wk.yld i w S x H' hlt l s.wd y
    subst e3
    have s3 := s.step alc.ext (s.wd.alc alc)
    rw [drop_cons_of hd] at p
    unfold forF at p
    cases ha : asgT t d sd with
    | none => rw [ha] at p; exact p.elim
    | some sd2 =>
      rw [ha] at p
      refine ⟨w3, S, sd, d, sd2, rfl, s3.wd, s3.rs, rd, ha, fun σ2 s2 aw => ⟨sd2, S, w3, rfl, ⟨s3.ext, s3.wd, s2, s3.own.asg ha aw⟩, ?_⟩⟩
      simp only at p
      cases hf : f sd2 S with
      | nx sd4 S4 => rw [hf] at p; exact fun σ4 w4 l4 s4 => ⟨w4, sd4, S4, rfl, (l.trans alc.ext.le).trans l4, s4, p⟩
      | rt d S4 => rw [hf] at p; exact p
      | ex x sd4 S4 => rw [hf] at p; exact p
      | bad => rw [hf] at p; exact p.elim
  · have hi' : i = ds.length := by omega
    subst hi'
    rw [List.drop_length] at p
    exact .inl ⟨wk.stop w S l s.wd, p σ w l s⟩
theorem js_while {c : Expr} {body : List Stmt} {pos : Pos} {m : List SV → M Bool} {f : SF} (n : Nat) (hp : PassesOwn (model X.prog X.w) X.A X.env X.xe) (hc : PT X c (tMT T W m)) (hb : PSs X body (tS T e W f)) : PS X (.While c body [] pos) (tS T e W (whileF m f n)) :=
  PS.imp (ps_while hp hc hb) fun Dn σ H ⟨sd, S, w, e1, s, p⟩ => by
    refine ⟨fun k σ H => ∃ w2 sd S, w2.H = H ∧ Le w w2 ∧ Sit T e w2 sd S σ ∧ PS' T e W Dn w (whileF m f k sd S), ⟨n, w, sd, S, e1, .refl _, s, p⟩, ?_⟩
    rintro k σ H ⟨w2, sd, S, eH, l, s, p⟩
    cases k with
    | zero => exact p.elim
    | succ k =>
      unfold whileF at p
      refine ⟨sd, S, w2, eH, s.wd, s.rs, ?_⟩
      cases hm : m sd S with
      | bad => rw [hm] at p; exact p.elim
      | exc x S1 => rw [hm] at p; exact fun cls d w3 x3 d3 r => p cls d σ w3 (s.step x3 d3) r
      | ok b S1 =>
        rw [hm] at p
        intro b' w3 x3 d3 hb
        subst hb
        have s3 := s.step x3 d3
        cases b with
        | false => rw [if_neg (by simp)]; exact p σ w3 (l.trans x3.le) s3
        | true =>
          rw [if_pos rfl]
          refine ⟨fun σ H => ∃ w2 sd S, w2.H = H ∧ Le w w2 ∧ Sit T e w2 sd S σ ∧ PS' T e W Dn w (whileF m f k sd S), fun σ' H' h => ⟨k, Nat.lt_succ_self k, h⟩, sd, S1, w3, rfl, s3, ?_⟩
          simp only at p
          cases hf : f sd S1 with
          | nx sd4 S4 => rw [hf] at p; exact fun σ4 w4 l4 s4 => ⟨w4, sd4, S4, rfl, (l.trans x3.le).trans l4, s4, p⟩
          | rt d S4 => rw [hf] at p; exact p
          | ex x sd4 S4 => rw [hf] at p; exact p
          | bad => rw [hf] at p; exact p.elim
def appF (i : Nat) (f : List SV → M D) : SF := fun sd S => match sd[i]? with
  | some (.own ds) => match f sd S with
    | .ok d S1 => if ds.length < sizeLine then .nx (sd.set i (.own (ds ++ [d]))) S1 else .bad
    | .exc x S1 => .ex x sd S1
    | .bad => .bad
  | _ => .bad
theorem set_same {σ : L2.St} {i : Nat} {o : Option V} (h : σ[i]? = some o) : σ.set i o = σ := by
  apply List.ext_getElem?
  intro j
  by_cases z : i = j
  · subst z
    rw [List.getElem?_set_self', h]; rfl
  · rw [List.getElem?_set_ne z]
theorem NoC.other {T : Tb} {w : Wo} {sd : List SV} {σ : L2.St} (r : RS T w sd σ) {i : Nat} {sv : SV} {a : Addr} (hi : sd[i]? = some sv) (ho : sv.isOwn = true) (ha : σ[i]? = some (some (.ref a))) : NoC (sd.set i .un) (σ.set i none) a := fun j sj hj oj => by
  by_cases z : i = j
  · subst z
    rw [List.getElem?_set_self', hi] at hj
    cases hj; cases oj
  · rw [List.getElem?_set_ne z] at hj
    rw [List.getElem?_set_ne z]
    exact r.ap i j sv sj a z hi hj ho oj ha
theorem RS.poke' {w : Wo} {sd : List SV} {σ : L2.St} (r : RS T w sd σ) {i : Nat} {ds ds' : List D} {a : Addr} {vs vs' : List V} (hi : sd[i]? = some (.own ds)) (ha : σ[i]? = some (some (.ref a))) (h1 : w.H a = some (.lst vs)) (h2 : w.G a = none) (h3 : a ∉ w.lam) (h4 : RepA T w.lam w.G ds' vs') :
    RS T ⟨w.lam, w.G, upd w.H a (.lst vs')⟩ (sd.set i (.own ds')) σ := by
  have nc := NoC.other r hi rfl ha
  have r1 : RS T ⟨w.lam, w.G, upd w.H a (.lst vs')⟩ (sd.set i .un) (σ.set i none) := (r.un i none).poke nc
  have r2 := r1.seto (ds := ds') (a := a) (vs := vs') i upd_same h2 h3 h4 (nc.un i)
  rw [List.set_set, List.set_set, set_same ha] at r2
  exact r2
theorem OwnN.seto' {sd : List SV} {σ : L2.St} (h : OwnN e sd σ) {i : Nat} {ds ds' : List D} (hi : sd[i]? = some (.own ds)) : OwnN e (sd.set i (.own ds')) σ := fun j sv b h1 h2 h3 => by
  by_cases z : i = j
  · subst z
    exact h i _ b hi rfl h3
  · rw [List.getElem?_set_ne z] at h1
    exact h j sv b h1 h2 h3
theorem Sit.poke {w : Wo} {sd : List SV} {S : List MO} {σ : L2.St} (s : Sit T e w sd S σ) {i : Nat} {ds ds' : List D} {a : Addr} {vs vs' : List V} (hi : sd[i]? = some (.own ds)) (ha : σ[i]? = some (some (.ref a))) (h1 : w.H a = some (.lst vs)) (h2 : w.G a = none) (h3 : a ∉ w.lam) (h4 : RepA T w.lam w.G ds' vs') :
    Sit T e ⟨w.lam, w.G, upd w.H a (.lst vs')⟩ (sd.set i (.own ds')) S σ :=
  ⟨s.ext.poke (s.own i _ a hi rfl ha), s.wd.poke h1 h2 h3 (fun _ z => by cases z) (fun _ z => by cases z) lst_code, s.rs.poke' hi ha h1 h2 h3 h4, s.own.seto' hi⟩
theorem Le.poke (w : Wo) (a : Addr) (o : HO) : Le w ⟨w.lam, w.G, upd w.H a o⟩ := ⟨⟨[], by simp⟩, Same.refl _⟩
theorem js_app {i : Nat} {x : Str} {a : Expr} {p1 p2 p3 pos : Pos} {f : List SV → M D} (hN : X.N[i]? = some x) (hv : Vis X.env.scope x) (hd : (x == ("__debug__" : Str)) = false) (hcd : (x == ("__classdict__" : Str)) = false) (ha : PE X a (tM T W f))
    (mk : ∀ {t : TE} {u : TA}, PE X (.Name x p1) t → PA X [a] u → PE X (.Call (.Attribute (.Name x p1) "append" p2) [a] [] p3) (tBM X.K "list" rAppend t u)) (hs1 : starEach [a] X.env = (false, eval a X.env) :: starEach [] X.env) (hs : swapsWith (.Call (.Attribute (.Name x p1) "append" p2) [a] [] p3) none pos.line X.env = pure false) :
    PS X (.Expr (.Call (.Attribute (.Name x p1) "append" p2) [a] [] p3) pos) (tS T e W (appF i f)) :=
  PS.imp (ps_expr (mk (pe_var hN hv hd hcd) (pa_cons ha pa_nil hs1)) hs) fun Dn σ H ⟨sd, S, w, e1, s, p⟩ => by
    subst e1
    unfold appF at p
    cases hi : sd[i]? with
    | none => rw [hi] at p; exact p.elim
    | some sv =>
      rw [hi] at p
      cases sv with
      | un => exact p.elim
      | val d => exact p.elim
      | raw vv => exact p.elim
      | dic b ks vs => exact p.elim
      | own ds =>
        obtain ⟨ov, ho, a0, vs, ea, h1, h2, h3, h4⟩ := s.rs.get hi
        subst ea
        refine ⟨.ref a0, ho, .inl ⟨rfl, vs, .inl (.inl h1)⟩, sd, S, w, rfl, s.wd, s.rs, ?_⟩
        simp only at p
        cases hf : f sd S with
        | bad => rw [hf] at p; exact p.elim
        | exc x S1 => rw [hf] at p; exact fun cls d w3 x3 d3 r => p cls d σ w3 (s.step x3 d3) r
        | ok d S1 =>
          rw [hf] at p
          intro y w3 x3 d3 r
          have s3 := s.step x3 d3
          obtain ⟨ov, ho', b0, us, eb, g1, g2, g3, g4⟩ := s3.rs.get hi
          subst eb
          rw [ho] at ho'
          cases ho'
          simp only at p
          by_cases hl : ds.length < sizeLine
          · rw [if_pos hl] at p
            refine ⟨a0, us, y, rfl, rfl, g1, by rw [← g4.length]; exact hl, ?_⟩
            exact p σ _ (x3.le.trans (Le.poke w3 a0 _)) (s3.poke hi ho g1 g2 g3 (g4.app (.cons r .nil)))
          · rw [if_neg hl] at p; exact p.elim
def putF (i : Nat) (f g : List SV → M D) : SF := ofM f fun d sd S => match sd[i]? with
  | some (.own ds) => ofM g (fun k sd S => match k with
    | .int k => match ixN ds.length k with
      | some j => .nx (sd.set i (.own (ds.set j d))) S
      | none => .bad
    | _ => .bad) sd S
  | _ => .bad
theorem js_put {i : Nat} {x : Str} {a b : Expr} {p1 p2 pos : Pos} {f g : List SV → M D} (hN : X.N[i]? = some x) (hv : Vis X.env.scope x) (hd : (x == ("__debug__" : Str)) = false) (hcd : (x == ("__classdict__" : Str)) = false) (ha : PE X a (tM T W f)) (hb : PE X b (tM T W g))
    (mk : ∀ {to ti tv : TE}, PE X (.Name x p1) to → PE X b ti → PE X a tv → PS X (.Assign [.Subscript (.Name x p1) b p2] a pos) (tAsg tv (gSub to ti rSetL))) :
    PS X (.Assign [.Subscript (.Name x p1) b p2] a pos) (tS T e W (putF i f g)) :=
  PS.imp (mk (pe_var hN hv hd hcd) hb ha) fun Dn σ H q => by
    unfold putF at q
    refine st_R q fun d sd S1 v w1 s1 r1 p => ?_
    cases hi : sd[i]? with
    | none => simp only [hi] at p; exact p.elim
    | some sv =>
      cases sv <;> simp only [hi] at p <;> first | exact p.elim | skip
      rename_i ds
      obtain ⟨ov, ho, a0, vs, ea, _⟩ := s1.rs.get hi
      subst ea
      refine ⟨.ref a0, ho, ?_⟩
      refine st_at s1 p fun k S2 y w2 x2 s2 r2 p2 => ?_
      obtain ⟨ov, ho', b0, us, eb, g1, g2, g3, g4⟩ := s2.rs.get hi
      subst eb
      rw [ho] at ho'
      cases ho'
      cases k <;> first | exact p2.elim | skip
      rename_i k
      simp only at p2
      cases hj : ixN ds.length k with
      | none => rw [hj] at p2; exact p2.elim
      | some j =>
        rw [hj] at p2
        cases r2
        exact ⟨a0, us, k, j, rfl, rfl, g1, by rw [← g4.length]; exact hj, p2 σ _ (Le.poke w2 a0 _) (s2.poke hi ho g1 g2 g3 (g4.set j (r1.ext x2)))⟩
def lputF (i : Nat) (f g : List SV → M D) : SF := ofM f fun d sd S => match sd[i]? with
  | some (.val (.loc n)) => ofM g (fun k sd S => match k, S[n]? with
    | .int k, some (.lst ds) => match ixN ds.length k with
      | some j => .nx sd (S.set n (.lst (ds.set j d)))
      | none => .bad
    | _, _ => .bad) sd S
  | _ => .bad
theorem nodup_ix_ : ∀ {l : List Addr} {i j : Nat} {a : Addr}, l.Nodup → l[i]? = some a → l[j]? = some a → i = j
  | [], i, j, a, _, h, _ => by simp at h
  | b :: l, 0, 0, a, _, _, _ => rfl
  | b :: l, 0, j + 1, a, n, h, h' => by
    have e := Option.some.inj h
    subst e
    exact absurd (List.mem_of_getElem? (i := j) (by simpa using h')) (List.nodup_cons.mp n).1
  | b :: l, i + 1, 0, a, n, h, h' => by
    have e := Option.some.inj h'
    subst e
    exact absurd (List.mem_of_getElem? (i := i) (by simpa using h)) (List.nodup_cons.mp n).1
  | b :: l, i + 1, j + 1, a, n, h, h' => by rw [nodup_ix_ (List.nodup_cons.mp n).2 (i := i) (j := j) (by simpa using h) (by simpa using h')]
theorem Wd.lput {w : Wo} {S : List MO} (d : Wd T w S) {n : Nat} {a : Addr} {ds ds' : List D} {vs vs' : List V} (hn : w.lam[n]? = some a) (hS : S[n]? = some (.lst ds)) (h1 : w.H a = some (.lst vs)) (r : RepA T w.lam w.G ds' vs') :
    Wd T ⟨w.lam, w.G, upd w.H a (.lst vs')⟩ (S.set n (.lst ds')) := by
  have hm : a ∈ w.lam := List.mem_of_getElem? hn
  have ga : w.G a = none := d.out a hm
  refine ⟨by simp [d.len], d.nd, fun b u e => ?_, d.out, fun k x m h2 h3 => ?_, fun p hp => ?_, d.notb⟩
  · show upd w.H a (.lst vs') b = some u
    rw [upd_ne (ne_of_none e ga)]; exact d.sub b u e
  · have h2 : w.lam[k]? = some x := h2
    by_cases z : n = k
    · subst z
      rw [hn] at h2; cases h2
      rw [List.getElem?_set_self', hS] at h3
      cases h3
      exact ⟨vs', upd_same, r⟩
    · rw [List.getElem?_set_ne z] at h3
      have q := d.obj k x m h2 h3
      have nx : x ≠ a := fun y => by
        subst y
        exact z (nodup_ix_ d.nd hn h2)
      cases m with
      | lst es =>
        obtain ⟨us, g1, g2⟩ := q
        exact ⟨us, by show upd w.H a (.lst vs') x = _; rw [upd_ne nx]; exact g1, g2⟩
      | ins c fs =>
        obtain ⟨C, dx, fvs, g0, g1, g2, g3, g4, g5⟩ := q
        have ndx : dx ≠ a := fun y => by rw [y, h1] at g2; cases g2
        exact ⟨C, dx, fvs, g0, by show upd w.H a (.lst vs') x = _; rw [upd_ne nx]; exact g1, by show upd w.H a (.lst vs') dx = _; rw [upd_ne ndx]; exact g2, g3, g4, g5⟩
  · obtain ⟨ps, g1, g2, g3⟩ := d.tabs p hp
    have n1 : p.1 ≠ a := fun z => by rw [z, h1] at g1; cases g1
    refine ⟨ps, by show upd w.H a (.lst vs') p.1 = _; rw [upd_ne n1]; exact g1, g2, fun pos cv hc => ?_⟩
    obtain ⟨c, e1, e2⟩ := g3 pos cv hc
    have n2 : c ≠ a := fun z => by rw [z, h1] at e2; exact lst_code _ (Option.some.inj e2)
    exact ⟨c, e1, by show upd w.H a (.lst vs') c = _; rw [upd_ne n2]; exact e2⟩
theorem Ext.lput {w0 w : Wo} {a : Addr} {o : HO} (x : Ext w0 w) (h : a ∈ w.lam) : Ext w0 ⟨w.lam, w.G, upd w.H a o⟩ where
  lam := x.lam
  new := x.new
  g := x.g
  gnew := x.gnew
  fr := fun b u h1 h2 h3 => by
    have n : b ≠ a := fun z => by
      subst z
      rcases x.new b h with q | q
      · exact h3 q
      · rw [h1] at q; cases q
    show upd w.H a o b = some u
    rw [upd_ne n]; exact x.fr b u h1 h2 h3
  there := fun b hb => by
    show upd w.H a o b ≠ none
    by_cases z : b = a
    · subst z; rw [upd_same]; exact fun z => by cases z
    · rw [upd_ne z]; exact x.there b hb
theorem RS.noLam {w : Wo} {sd : List SV} {σ : L2.St} (r : RS T w sd σ) {a : Addr} (h : a ∈ w.lam) : NoC sd σ a := fun i sv hi ho z => by
  have q := r.at_ i sv _ hi z
  cases sv with
  | un => cases ho
  | val d => cases ho
  | own ds =>
    obtain ⟨b, vs, e, h1, h2, h3, _⟩ := q
    cases e
    exact h3 h
  | dic k ks vs =>
    obtain ⟨b, u, kv, vv, e, h1, h2, h3, h4, _⟩ := q
    cases e
    exact h4 h
  | raw vv => cases ho
theorem js_lput {i : Nat} {x : Str} {a b : Expr} {p1 p2 pos : Pos} {f g : List SV → M D} (hN : X.N[i]? = some x) (hv : Vis X.env.scope x) (hd : (x == ("__debug__" : Str)) = false) (hcd : (x == ("__classdict__" : Str)) = false) (ha : PE X a (tM T W f)) (hb : PE X b (tM T W g))
    (mk : ∀ {to ti tv : TE}, PE X (.Name x p1) to → PE X b ti → PE X a tv → PS X (.Assign [.Subscript (.Name x p1) b p2] a pos) (tAsg tv (gSub to ti rSetL))) :
    PS X (.Assign [.Subscript (.Name x p1) b p2] a pos) (tS T e W (lputF i f g)) :=
  PS.imp (mk (pe_var hN hv hd hcd) hb ha) fun Dn σ H q => by
    unfold lputF at q
    refine st_R q fun d sd S1 v w1 s1 r1 p => ?_
    cases hi : sd[i]? with
    | none => simp only [hi] at p; exact p.elim
    | some sv =>
      cases sv <;> simp only [hi] at p <;> first | exact p.elim | skip
      rename_i dd
      cases dd <;> first | exact p.elim | skip
      rename_i n
      obtain ⟨ov, ho, v0, ev, r0⟩ := s1.rs.get hi
      subst ev
      refine ⟨v0, ho, ?_⟩
      refine st_at s1 p fun k S2 y w2 x2 s2 r2 p2 => ?_
      cases k <;> first | exact p2.elim | skip
      rename_i k
      cases hS : S2[n]? with
      | none => simp only [hS] at p2; exact p2.elim
      | some m =>
        cases m <;> simp only [hS] at p2 <;> first | exact p2.elim | skip
        rename_i ds
        cases hj : ixN ds.length k with
        | none => rw [hj] at p2; exact p2.elim
        | some j =>
          rw [hj] at p2
          cases r2
          have r0' := r0.ext x2
          cases r0' with
          | loc hn =>
            obtain ⟨us, g1, g2⟩ := s2.wd.obj n _ _ hn hS
            have hm := List.mem_of_getElem? hn
            refine ⟨_, us, k, j, rfl, rfl, g1, by rw [← g2.length]; exact hj, p2 σ _ (Le.poke w2 _ _) ⟨s2.ext.lput hm, s2.wd.lput hn hS g1 (g2.set j (r1.ext x2)), s2.rs.poke (s2.rs.noLam hm), s2.own⟩⟩
def locF (ds : List D) : SF := fun _ S => .rt (.loc S.length) (S ++ [.lst ds])
theorem Wd.addl {w : Wo} {S : List MO} {a : Addr} {ds : List D} {vs : List V} (d : Wd T w S) (h1 : w.H a = some (.lst vs)) (h2 : w.G a = none) (h3 : a ∉ w.lam) (r : RepA T w.lam w.G ds vs) : Wd T ⟨w.lam ++ [a], w.G, w.H⟩ (S ++ [.lst ds]) := by
  have lm : ∀ {x : Addr} {m : MO}, MOk T w x m → MOk T ⟨w.lam ++ [a], w.G, w.H⟩ x m := fun {x m} q => by
    cases m with
    | lst es => obtain ⟨us, g1, g2⟩ := q; exact ⟨us, g1, g2.mono (l := [a]) rfl (Same.refl _)⟩
    | ins c fs =>
      obtain ⟨C, dx, fvs, g0, g1, g2, g3, g4, g5⟩ := q
      have n : dx ≠ a := fun z => by rw [z, h1] at g2; cases g2
      exact ⟨C, dx, fvs, g0, g1, g2, g3, fun z => by
        rcases List.mem_append.mp z with z | z
        · exact g4 z
        · simp at z; exact n z, paired_imp (fun p q x => ⟨x.1, x.2.mono (l := [a]) rfl (Same.refl _)⟩) g5⟩
  refine ⟨by simp [d.len], ?_, d.sub, fun b hb => ?_, fun n x m g1 g2 => ?_, d.tabs, d.notb⟩
  · rw [List.nodup_append]
    exact ⟨d.nd, by simp, fun b hb c hc => by simp at hc; rw [hc]; exact fun z => h3 (z ▸ hb)⟩
  · rcases List.mem_append.mp hb with z | z
    · exact d.out b z
    · simp at z; rw [z]; exact h2
  · have g1 : (w.lam ++ [a])[n]? = some x := g1
    by_cases hn : n < S.length
    · rw [List.getElem?_append_left (by rw [d.len]; exact hn)] at g1
      rw [List.getElem?_append_left hn] at g2
      exact lm (d.obj n x m g1 g2)
    · have hl := d.len
      have e : n = S.length := by
        have := (List.getElem?_eq_some_iff.mp g2).1
        simp at this
        omega
      subst e
      rw [List.getElem?_append_right (by omega)] at g1
      rw [List.getElem?_append_right (Nat.le_refl _)] at g2
      rw [hl] at g1
      simp at g1 g2
      subst g1; subst g2
      exact ⟨vs, h1, r.mono (l := [a]) rfl (Same.refl _)⟩
theorem js_loc {a : Expr} {pos : Pos} {f : List SV → M (List D)} (h : PE X a (tRF T W f)) : PS X (.Return (some a) pos) (tS T e W (ofM f locF)) :=
  PS.imp (ps_ret h) fun Dn σ H q => st_F q fun ds sd S1 a vs w0 w1 x r0 s h0 h1 h2 h3 h4 h5 p => by
    have hl : (w1.lam ++ [a])[S1.length]? = some a := by
      rw [List.getElem?_append_right (by rw [s.wd.len]; exact Nat.le_refl _)]
      simp [s.wd.len]
    refine p (.ref a) ⟨w1.lam ++ [a], w1.G, w1.H⟩ ?_ (s.wd.addl h1 h2 h3 h4) (.loc hl)
    obtain ⟨l, el⟩ := s.ext.lam
    exact ⟨⟨l ++ [a], by show w1.lam ++ [a] = _; rw [el, List.append_assoc]⟩, fun b hb => by
      rcases List.mem_append.mp hb with z | z
      · exact s.ext.new b z
      · simp at z; rw [z]; exact .inr h5, s.ext.g, s.ext.gnew, s.ext.fr, s.ext.there⟩
def raiF (k : Nat) : SF := fun sd S => .ex ⟨k, none⟩ sd S
theorem js_raise {k : Nat} {C : Addr} {a : Expr} {pos : Pos} (hC : T.ca k = some C) (h : ∀ {Wx : WX}, L2N.Takes X Wx → PS X (.Raise (some a) none pos) (fun _ σ H => Wx (.ref C) none σ H)) (tk : L2N.Takes X W) : PS X (.Raise (some a) none pos) (tS T e W (raiF k)) :=
  PS.imp (h tk) fun Dn σ H ⟨sd, S, w, e1, s, q⟩ => by
    subst e1
    exact q (.ref C) none σ w s ⟨C, hC, rfl, rfl⟩
end
end Q
set_option Elab.async false
set_option linter.all false
set_option maxRecDepth 100000
set_option maxHeartbeats 4000000
namespace Q
open PySem PySem.Spec PyProof.Rows L2
def sd0 (n : Nat) (ds : List D) : List SV := ds.map .val ++ List.replicate (n - ds.length) .un
/-- a def's body run -/
def runF (n : Nat) (F : SF) (ds : List D) : M D := fun S => match F (sd0 n ds) S with
  | .nx _ S' => .ok .non S'
  | .rt d S' => .ok d S'
  | .ex x _ S' => .exc x S'
  | .bad => .bad
section
variable {T : Tb} {mg : Str → Option Value} {base : Heap}
theorem RepA.getV {lam : List Addr} {G : Hp} : ∀ {ds : List D} {vs : List V} {i : Nat} {d : D}, RepA T lam G ds vs → ds[i]? = some d → ∃ v, vs[i]? = some v ∧ Rep T lam G d v := fun r h => r.getD h
theorem rs_start {w : Wo} {ds : List D} {vs : List V} (n : Nat) (N : List Str) (hn : N.length = n) (r : RepA T w.lam w.G ds vs) : RS T w (sd0 n ds) (L2.start N vs) := by
  have hl := r.length
  refine ⟨by simp [sd0, L2.start, hl, hn], fun i sv ov h1 h2 => ?_, fun i j si sj a hij h1 h2 o1 o2 h3 h4 => ?_⟩
  · unfold sd0 at h1
    unfold L2.start at h2
    by_cases hi : i < ds.length
    · rw [List.getElem?_append_left (by simpa using hi), List.getElem?_map] at h1
      rw [List.getElem?_append_left (by simpa [← hl] using hi), List.getElem?_map] at h2
      cases q : ds[i]? with
      | none => rw [q] at h1; cases h1
      | some d =>
        rw [q] at h1
        obtain ⟨v, e, rr⟩ := r.getV q
        rw [e] at h2
        cases h1; cases h2
        exact ⟨v, rfl, rr⟩
    · rw [List.getElem?_append_right (by simpa using hi)] at h1
      rw [List.getElem?_replicate] at h1
      split at h1
      · cases h1; trivial
      · cases h1
  · unfold sd0 at h1
    by_cases hi : i < ds.length
    · rw [List.getElem?_append_left (by simpa using hi), List.getElem?_map] at h1
      cases q : ds[i]? with
      | none => rw [q] at h1; cases h1
      | some d => rw [q] at h1; cases h1; cases o1
    · rw [List.getElem?_append_right (by simpa using hi), List.getElem?_replicate] at h1
      split at h1
      · cases h1; cases o1
      · cases h1
theorem own_start {w e : Wo} {ds : List D} {σ : L2.St} (n : Nat) : OwnN e (sd0 n ds) σ := fun i sv a h1 o1 _ => by
  unfold sd0 at h1
  by_cases hi : i < ds.length
  · rw [List.getElem?_append_left (by simpa using hi), List.getElem?_map] at h1
    cases q : ds[i]? with
    | none => rw [q] at h1; cases h1
    | some d => rw [q] at h1; cases h1; cases o1
  · rw [List.getElem?_append_right (by simpa using hi), List.getElem?_replicate] at h1
    split at h1
    · cases h1; cases o1
    · cases h1
/-- the def's context -/
abbrev dX (T : Tb) (mg : Str → Option Value) (base : Heap) (N : List Str) (qual : Str) (sc : Scope) (f : Addr) (cd : Value) (A : Around) (outer : List Env) (s : Shared) (H : Hp) (E : XK) : Cx := cxOf (L2N.CX T.P T.w) T.P T.w T.K mg base N qual sc f cd A outer s H E
abbrev dW (E : XK) : WX := fun cls d _ H => E cls d H
theorem fnD_of {x qual : Str} {st : Stmt} {a : Addr} {fd : FuncData} {N ps : List Str} {k n idx : Nat} {F : SF} (Fn : L2.Fun T.K x qual st a fd) (hb : Binds T.K fd ps []) (hf : T.fa idx = some a) (hm : mg x = some (.ref a)) (S : FnScope N ps (defScope st)) (hn : N.length = n)
    (body : ∀ (cdv : Value) (A : Around) (outer : List Env) (s : Shared) (H : Hp) (E : XK) (e : Wo), Room k (A.deeper (envOfC qual (defScope st) s.heap.objs.size a cdv)) → PSs (dX T mg base N qual (defScope st) a cdv A outer s H E) (defBody st) (tS T e (dW E) F)) :
    FnD T mg base (k + 1) idx x ps (runF n F) := by
  obtain ⟨oc, od, kV, doc, pm, an, cdv, ct, osl, rfl, lk, hcd⟩ := Fn.ex
  refine ⟨a, _, hf, hm, Fn.kp, hb, ⟨_, _, _, lk⟩, ?_⟩
  refine fn_of lk hcd S (fun vs H Q E h => ?_) fun A outer s H vs Q E hr h => ?_
  · obtain ⟨ds, S', w, hl, _, _, r, _⟩ := h
    rw [← r.length, hl]
  · obtain ⟨ds, S', w, hl, e1, d1, r, q⟩ := h
    refine ⟨_, body cdv A outer s H E w hr, sd0 n ds, S', w, e1, ⟨.refl w, d1, rs_start n N hn r, own_start (w := w) n⟩, ?_⟩
    unfold runF at q
    cases hF : F (sd0 n ds) S' with
    | nx sd S1 => rw [hF] at q; exact fun σ w' l s => q .non w' s.ext s.wd .non
    | rt d S1 => rw [hF] at q; exact fun v w' x d r => q v w' x d r
    | ex x sd S1 => rw [hF] at q; exact fun cls d σ w' s r => q cls d w' s.ext s.wd r
    | bad => rw [hF] at q; exact q.elim
end
theorem takesN0 {X : Cx} : L2N.Takes X W0 := fun _ _ x => by
  obtain ⟨_, _, _, _, _, _, _, _, _, _, _, _, _, _, _, _, z⟩ := x
  exact z.elim
def LenM (n : Nat) (h : List SV → M (List D)) : Prop := ∀ sd S ds S', h sd S = .ok ds S' → ds.length = n
theorem lenM_nil : LenM 0 (fun _ => pure []) := fun sd S ds S' h => by
  cases h; rfl
theorem lenM_cons {n : Nat} {f : List SV → M D} {g : List SV → M (List D)} (h : LenM n g) : LenM (n + 1) (fun sd => f sd >>= fun d => g sd >>= fun ds => pure (d :: ds)) := fun sd S ds S' q => by
  have q : (f sd >>= fun d => g sd >>= fun ds => pure (d :: ds)) S = Res.ok ds S' := q
  rw [bind_ap] at q
  cases hf : f sd S with
  | bad => rw [hf] at q; cases q
  | exc x S1 => rw [hf] at q; cases q
  | ok d S1 =>
    rw [hf] at q
    have q : (g sd >>= fun ds => pure (d :: ds)) S1 = Res.ok ds S' := q
    rw [bind_ap] at q
    cases hg : g sd S1 with
    | bad => rw [hg] at q; cases q
    | exc x S2 => rw [hg] at q; cases q
    | ok es S2 =>
      rw [hg] at q
      cases q
      simp [h _ _ _ _ hg]
section
variable {X : Cx} {T : Tb} {W : WX} {e : Wo}
theorem V_ {i : Nat} {x : Str} {pos : Pos} (hN : X.N[i]? = some x := by rfl) (hv : Vis X.env.scope x := by first | exact .inl rfl | exact .inr (.inl rfl) | exact .inr (.inr rfl)) (hd : (x == ("__debug__" : Str)) = false := by decide) (hcd : (x == ("__classdict__" : Str)) = false := by decide) : PE X (.Name x pos) (tM T W (getv i)) := je_var hN hv hd hcd
theorem B_ {i : Nat} {x : Str} {pos : Pos} (hN : X.N[i]? = some x := by rfl) (hv : Vis X.env.scope x := by first | exact .inl rfl | exact .inr (.inl rfl) | exact .inr (.inr rfl)) (hd : (x == ("__debug__" : Str)) = false := by decide) (hcd : (x == ("__classdict__" : Str)) = false := by decide) : PE X (.Name x pos) (tMB T W (getb i)) := jb_var hN hv hd hcd
theorem add_ {a b : Expr} {pos : Pos} {f g : List SV → M D} (ha : PE X a (tMB T W f)) (hb : PE X b (tMB T W g)) (k : Lk T X := by exact ⟨rfl, rfl, rfl⟩) : PE X (.BinOp a .Add b pos) (tM T W fun sd => f sd >>= fun x => g sd >>= fun y => M.lift (addD x y)) := je_op (add_D k) ha hb
theorem sub_ {a b : Expr} {pos : Pos} {f g : List SV → M D} (ha : PE X a (tMB T W f)) (hb : PE X b (tMB T W g)) (k : Lk T X := by exact ⟨rfl, rfl, rfl⟩) : PE X (.BinOp a .Sub b pos) (tM T W fun sd => f sd >>= fun x => g sd >>= fun y => M.lift (subD x y)) := je_op (sub_D k) ha hb
theorem mul_ {a b : Expr} {pos : Pos} {f g : List SV → M D} (ha : PE X a (tMB T W f)) (hb : PE X b (tMB T W g)) (k : Lk T X := by exact ⟨rfl, rfl, rfl⟩) : PE X (.BinOp a .Mult b pos) (tM T W fun sd => f sd >>= fun x => g sd >>= fun y => M.lift (mulD x y)) := je_op (mul_D k) ha hb
theorem fdiv_ {a b : Expr} {pos : Pos} {f g : List SV → M D} (ha : PE X a (tMB T W f)) (hb : PE X b (tMB T W g)) (k : Lk T X := by exact ⟨rfl, rfl, rfl⟩) : PE X (.BinOp a .FloorDiv b pos) (tM T W fun sd => f sd >>= fun x => g sd >>= fun y => M.lift (fdivD x y)) := je_op (fdiv_D k) ha hb
theorem mod_ {a b : Expr} {pos : Pos} {f g : List SV → M D} (ha : PE X a (tMB T W f)) (hb : PE X b (tMB T W g)) (k : Lk T X := by exact ⟨rfl, rfl, rfl⟩) : PE X (.BinOp a .Mod b pos) (tM T W fun sd => f sd >>= fun x => g sd >>= fun y => M.lift (modD x y)) := je_op (mod_D k) ha hb
theorem pow_ {a b : Expr} {pos : Pos} {f g : List SV → M D} (ha : PE X a (tMB T W f)) (hb : PE X b (tMB T W g)) (k : Lk T X := by exact ⟨rfl, rfl, rfl⟩) : PE X (.BinOp a .Pow b pos) (tM T W fun sd => f sd >>= fun x => g sd >>= fun y => M.lift (powD x y)) := je_op (pow_D k) ha hb
/-- the operator of a comparison -/
theorem cmp_D (hu : X.A.units + 65 < cLine) (k : Lk T X) : ∀ op : CmpOp, OpR X (compareOp op) (rD T (cmpD op))
  | .Eq => eq_D k (by omega)
  | .NotEq => ne_D k (by omega)
  | .Lt => lt_D k (by omega)
  | .LtE => le_D k (by omega)
  | .Gt => gt_D k (by omega)
  | .GtE => ge_D k (by omega)
  | .Is => is_D k
  | .IsNot => isnot_D k
  | .In => in_D k hu
  | .NotIn => notin_D k hu
theorem cmp_ (op : CmpOp) {a b : Expr} {pos : Pos} {f g : List SV → M D} (hu : X.A.units + 65 < cLine) (ha : PE X a (tMB T W f)) (hb : PE X b (tMB T W g)) (hm : behindInMarks op b = false := by first | exact nomark _ | rfl) (k : Lk T X := by exact ⟨rfl, rfl, rfl⟩) :
    PE X (.Compare a [op] [b] pos) (tM T W fun sd => f sd >>= fun x => g sd >>= fun y => M.lift (cmpD op x y)) := je_cmp (cmp_D hu k op) ha hb hm
theorem tcmp_ (op : CmpOp) {a b : Expr} {pos : Pos} {f g : List SV → M D} (hu : X.A.units + 65 < cLine) (ha : PE X a (tMB T W f)) (hb : PE X b (tMB T W g)) (hm : behindInMarks op b = false := by first | exact nomark _ | rfl) (k : Lk T X := by exact ⟨rfl, rfl, rfl⟩) :
    PT X (.Compare a [op] [b] pos) (tMT T W fun sd => (f sd >>= fun x => g sd >>= fun y => M.lift (cmpD op x y)) >>= asB) := jt_cmp (cmp_D hu k op) ha hb hm
theorem chain_ (op op' : CmpOp) {a b c : Expr} {pos : Pos} {f g h : List SV → M D} (hu : X.A.units + 65 < cLine) (ha : PE X a (tMB T W f)) (hb : PE X b (tMB T W g)) (hc : PE X c (tMB T W h)) (hm : lastMarks [op, op'] [b, c] = false := by with_unfolding_all rfl) (k : Lk T X := by exact ⟨rfl, rfl, rfl⟩) :
    PE X (.Compare a [op, op'] [b, c] pos) (tM T W fun sd => f sd >>= fun x => g sd >>= fun y => chainD (cmpD op) (cmpD op') x y (h sd)) := je_chain (cmp_D hu k op) (cmp_D hu k op') ha hb hc hm
theorem ix_ {a b : Expr} {pos : Pos} {f g : List SV → M D} (hu : X.A.units + 65 < cLine) (ha : PE X a (tMB T W f)) (hb : PE X b (tMB T W g)) (hs : PlainIx b := by exact fun _ _ => rfl) (k : Lk T X := by exact ⟨rfl, rfl, rfl⟩) : PE X (.Subscript a b pos) (tM T W fun sd => f sd >>= fun x => g sd >>= fun y => M.liftS fun S => ixD S x y) := je_ix hu k ha hb hs
theorem sl_ {a : Expr} {lo hi : Option Expr} {p2 pos : Pos} {f : List SV → M D} {l h : List SV → M (Option Int)} (ha : PE X a (tMB T W f)) (hl : PO X lo (tMO T W l)) (hh : PO X hi (tMO T W h)) (k : Lk T X := by exact ⟨rfl, rfl, rfl⟩) : PE X (.Subscript a (.Slice lo hi none p2) pos) (tM T W fun sd => f sd >>= fun x => l sd >>= fun i => h sd >>= fun j => M.lift (slD x i j)) := je_sl k ha hl hh
theorem val_ {a : Expr} {f : List SV → M D} (h : PE X a (tM T W f)) (he : ∀ whole, isTrue a X.env whole = (do let v ← whole; standAt a.pos; holding [v] (truthy v)) := by intro _; rfl) : PT X a (tMT T W fun sd => f sd >>= asB) := jt_val h he
theorem A_ {a : Expr} {es : List Expr} {f : List SV → M D} {g : List SV → M (List D)} (ha : PE X a (tM T W f)) (hr : PA X es (tML T W g)) (hs : starEach (a :: es) X.env = (false, eval a X.env) :: starEach es X.env := by rfl) : PA X (a :: es) (tML T W fun sd => f sd >>= fun d => g sd >>= fun ds => pure (d :: ds)) := ja_cons ha hr hs
theorem AB_ {a : Expr} {es : List Expr} {f : List SV → M D} {g : List SV → M (List D)} (ha : PE X a (tMB T W f)) (hr : PA X es (tMBL T W g)) (hs : starEach (a :: es) X.env = (false, eval a X.env) :: starEach es X.env := by rfl) : PA X (a :: es) (tMBL T W fun sd => f sd >>= fun d => g sd >>= fun ds => pure (d :: ds)) := jab_cons ha hr hs
theorem call_ {mg : Str → Option Value} {base : Heap} {k f : Nat} {x : Str} {ps : List Str} {g : List D → M D} {a : Expr} {es : List Expr} {p pos : Pos} {h : List SV → M (List D)} (tk : L2N.Takes X W) (F : FnD T X.mg X.base k f x ps g) (hr : Room k X.A) (ha : PA X (a :: es) (tML T W h))
    (hlen : LenM (a :: es).length h := by repeat (first | exact lenM_nil | apply lenM_cons)) (hg : Gl X x := by rfl) (hl : (a :: es).length = ps.length := by rfl) (hdb : (x == ("__debug__" : Str)) = false := by decide) (he : starEach (a :: es) X.env = (false, eval a X.env) :: starEach es X.env := by rfl) (hpl : (backTo pos (starEach es X.env)).any (·.1) = false := by rfl) (l : Lk T X := by exact ⟨rfl, rfl, rfl⟩) :
    PE X (.Call (.Name x p) (a :: es) [] pos) (tM T W fun sd => h sd >>= g) := je_call l tk F hr hg ha hl hlen hdb he hpl
theorem bi_ {a : Expr} {es : List Expr} {x : Str} {id : String} {p pos : Pos} {h : List SV → M (List D)} {r : List D → Option D} (hc : CallR X (.builtin id) (rC T r)) (hm : X.mg x = none) (ha : PA X (a :: es) (tMBL T W h)) (hg : Gl X x := by rfl) (hv : bootBuiltins x = some (.builtin id) := by decide +kernel) (hn : x ≠ "__name__" := by decide) (hdb : (x == ("__debug__" : Str)) = false := by decide)
    (he : starEach (a :: es) X.env = (false, eval a X.env) :: starEach es X.env := by rfl) (hpl : (backTo pos (starEach es X.env)).any (·.1) = false := by rfl) : PE X (.Call (.Name x p) (a :: es) [] pos) (tM T W fun sd => h sd >>= fun ds => M.lift (r ds)) := je_bi hc hg hm hv ha hn hdb he hpl
theorem ty_ {a : Expr} {es : List Expr} {x : Str} {id : String} {p pos : Pos} {h : List SV → M (List D)} {r : List D → Option D} (hc : CallR X (.type id) (rC T r)) (hm : X.mg x = none) (ha : PA X (a :: es) (tMBL T W h)) (hg : Gl X x := by rfl) (hv : bootBuiltins x = some (.type id) := by decide +kernel) (hn : x ≠ "__name__" := by decide) (hdb : (x == ("__debug__" : Str)) = false := by decide)
    (he : starEach (a :: es) X.env = (false, eval a X.env) :: starEach es X.env := by rfl) (hpl : (backTo pos (starEach es X.env)).any (·.1) = false := by rfl) : PE X (.Call (.Name x p) (a :: es) [] pos) (tM T W fun sd => h sd >>= fun ds => M.lift (r ds)) := je_ty hc hg hm hv ha hn hdb he hpl
end
end Q
set_option Elab.async false
set_option linter.all false
set_option maxRecDepth 100000
set_option maxHeartbeats 4000000
namespace Q
open PySem PySem.Spec PyProof.Rows L2
section
variable {X : Cx} {T : Tb} {W : WX} {e : Wo}
theorem isi_ {a : Expr} {t : Str} {tn : String} {p p2 pos : Pos} {f : List SV → M D} (hm : X.mg "isinstance" = none) (hmt : X.mg t = none) (ha : PE X a (tMB T W f)) (hv : bootBuiltins t = some (.type tn) := by decide +kernel) (hg : Gl X "isinstance" := by rfl) (hgt : Gl X t := by rfl) (hn : t ≠ "__name__" := by decide) (hd : (t == ("__debug__" : Str)) = false := by decide)
    (he : starEach [a, .Name t p2] X.env = (false, eval a X.env) :: starEach [.Name t p2] X.env := by rfl) (he2 : starEach [.Name t p2] X.env = (false, eval (.Name t p2) X.env) :: starEach [] X.env := by rfl) (hpl : (backTo pos (starEach [.Name t p2] X.env)).any (·.1) = false := by rfl) (k : Lk T X := by exact ⟨rfl, rfl, rfl⟩) :
    PE X (.Call (.Name "isinstance" p) [a, .Name t p2] [] pos) (tM T W fun sd => f sd >>= fun d => M.lift (isiD tn d)) := je_isi k hg hm ha (pe_bltn (v := .ty tn) hgt hmt hv rfl hn hd) he he2 hpl
theorem PTs.imp {es : List Expr} {t t' : TT} (h : PTs X es t) (hi : ∀ σ H Q, t' σ H Q → t σ H Q) : PTs X es t' := ⟨fun pins s σ H Q I q => h.run pins s σ H Q I (hi σ H Q q)⟩
theorem ts0 : PTs X [] (tMT T W fun _ => pure true) := PTs.imp pts_nil fun σ H Q h => tR_pure h fun _ _ => rfl
theorem ts1 {c : Expr} {f : List SV → M Bool} (h : PT X c (tMT T W f)) : PTs X [c] (tMT T W f) := pts_one h
theorem comp_ {elt tg iter : Expr} {ifs : List Expr} {scope : Scope} {own : List (Str × Nat)} {vs : List Nat} {pos : Pos} {it : List SV → M (List D)} {t : Tg} {c : List SV → M Bool} {e : List SV → M D}
    (hN : X.N.Nodup) (ok : BlkOk X.N X.env.scope scope own) (hi : PI X tg iter (tMI T W it))
    (hg : ∀ (s : Shared) (H : Hp) (C : Addr) (cl : List (Str × Addr)) (fp : List Addr), L2.PG (X.blk s H scope (compEnvC scope cl C X.env) fp) tg (gD T t)) (ht : ∀ (s : Shared) (H : Hp) (C : Addr) (cl : List (Str × Addr)) (fp : List Addr), PTs (X.blk s H scope (compEnvC scope cl C X.env) fp) ifs (tMT T W0 c))
    (he : ∀ (s : Shared) (H : Hp) (C : Addr) (cl : List (Str × Addr)) (fp : List Addr), PE (X.blk s H scope (compEnvC scope cl C X.env) fp) elt (tM T W0 e)) (hs : ∀ x, foldedSetIterable iter X.env x = pure x := by intro _; rfl) (hsl : ∀ i ∈ t.slots, i ∈ vs := by decide) (hc : X.calm = true := by rfl) (hvs : own.map (·.2) = vs := by rfl) (l : Lk T X := by exact ⟨rfl, rfl, rfl⟩) :
    PE X (.ListComp elt [⟨tg, iter, ifs, 0⟩] scope pos) (tRF T W (compF it t vs c e)) := by
  subst hvs
  exact jf_comp l hc hN hi ok hsl hg ht he hs
theorem comp2_ {elt tg iter tg1 iter1 : Expr} {ifs ifs1 : List Expr} {scope : Scope} {own : List (Str × Nat)} {vs : List Nat} {pos : Pos} {it it1 : List SV → M (List D)} {t t1 : Tg} {c c1 : List SV → M Bool} {e : List SV → M D} (vs1 : List Nat)
    (hN : X.N.Nodup) (ok : BlkOk X.N X.env.scope scope own) (hi : PI X tg iter (tMI T W it))
    (hg : ∀ (s : Shared) (H : Hp) (C : Addr) (cl : List (Str × Addr)) (fp : List Addr), L2.PG (X.blk s H scope (compEnvC scope cl C X.env) fp) tg (gD T t)) (ht : ∀ (s : Shared) (H : Hp) (C : Addr) (cl : List (Str × Addr)) (fp : List Addr), PTs (X.blk s H scope (compEnvC scope cl C X.env) fp) ifs (tMT T W0 c))
    (hi1 : ∀ (s : Shared) (H : Hp) (C : Addr) (cl : List (Str × Addr)) (fp : List Addr), PI (X.blk s H scope (compEnvC scope cl C X.env) fp) tg1 iter1 (tMI T W0 it1))
    (hg1 : ∀ (s : Shared) (H : Hp) (C : Addr) (cl : List (Str × Addr)) (fp : List Addr), L2.PG (X.blk s H scope (compEnvC scope cl C X.env) fp) tg1 (gD T t1)) (ht1 : ∀ (s : Shared) (H : Hp) (C : Addr) (cl : List (Str × Addr)) (fp : List Addr), PTs (X.blk s H scope (compEnvC scope cl C X.env) fp) ifs1 (tMT T W0 c1))
    (he : ∀ (s : Shared) (H : Hp) (C : Addr) (cl : List (Str × Addr)) (fp : List Addr), PE (X.blk s H scope (compEnvC scope cl C X.env) fp) elt (tM T W0 e)) (hs : ∀ x, foldedSetIterable iter X.env x = pure x := by intro _; rfl) (hs1 : ∀ env x, foldedSetIterable iter1 env x = pure x := by intro _ _; rfl) (hv : ∀ i ∈ vs1, i ∈ vs := by decide) (hsl : ∀ i ∈ t.slots, i ∈ vs := by decide) (hsl1 : ∀ i ∈ t1.slots, i ∈ vs1 := by decide) (hc : X.calm = true := by rfl) (hvs : own.map (·.2) = vs := by rfl) (l : Lk T X := by exact ⟨rfl, rfl, rfl⟩) :
    PE X (.ListComp elt [⟨tg, iter, ifs, 0⟩, ⟨tg1, iter1, ifs1, 0⟩] scope pos) (tRF T W (compF2 it t vs c it1 t1 vs1 c1 e)) := by
  subst hvs
  exact jf_comp2 l hc hN hi ok hv hsl hsl1 hg ht hi1 hg1 ht1 he hs hs1
theorem f_ {a : Expr} {f : List SV → M (List D)} (h : PE X a (tRF T W f)) : PE X a (tM T W fun sd => f sd >>= fun r => pure (.lst r)) := je_of_f h
/-- name = [..], the comprehension stores it itself -/
theorem setc_ {i : Nat} {y : Str} {py : Pos} {elt tg iter : Expr} {ifs : List Expr} {scope : Scope} {own : List (Str × Nat)} {vs : List Nat} {pos spos : Pos} {it : List SV → M (List D)} {t : Tg} {c : List SV → M Bool} {el : List SV → M D}
    (hN : X.N.Nodup) (hsw : swapsWith (.ListComp elt [⟨tg, iter, ifs, 0⟩] scope pos) (some (.Name y py)) spos.line X.env = pure true) (ok : BlkOk X.N X.env.scope scope own) (hi : PI X tg iter (tMI T W it))
    (hg : ∀ (s : Shared) (H : Hp) (C : Addr) (cl : List (Str × Addr)) (fp : List Addr), L2.PG (X.blk s H scope (compEnvC scope cl C X.env) fp) tg (gD T t)) (ht : ∀ (s : Shared) (H : Hp) (C : Addr) (cl : List (Str × Addr)) (fp : List Addr), PTs (X.blk s H scope (compEnvC scope cl C X.env) fp) ifs (tMT T W0 c))
    (he : ∀ (s : Shared) (H : Hp) (C : Addr) (cl : List (Str × Addr)) (fp : List Addr), PE (X.blk s H scope (compEnvC scope cl C X.env) fp) elt (tM T W0 el)) (hy : X.N[i]? = some y := by rfl) (hyl : X.env.scope.names.lookup y = some .local := by rfl) (hs : ∀ x, foldedSetIterable iter X.env x = pure x := by intro _; rfl) (hsl : ∀ i ∈ t.slots, i ∈ vs := by decide) (hc : X.calm = true := by rfl) (hvs : own.map (·.2) = vs := by rfl) :
    PS X (.Assign [.Name y py] (.ListComp elt [⟨tg, iter, ifs, 0⟩] scope pos) spos) (tS T e W (ofM (fun sd => compF it t vs c el sd >>= fun r => pure (.lst r)) (setF i))) :=
  by
  subst hvs
  exact PS.imp (ps_setLc hc hN hy hyl hsw hi ok hg ht he hs) fun Dn σ H q => comp_read hsl (tRF_of (st_val q))
theorem ownc_ {i : Nat} {y : Str} {py : Pos} {elt tg iter : Expr} {ifs : List Expr} {scope : Scope} {own : List (Str × Nat)} {vs : List Nat} {pos spos : Pos} {it : List SV → M (List D)} {t : Tg} {c : List SV → M Bool} {el : List SV → M D}
    (hN : X.N.Nodup) (hsw : swapsWith (.ListComp elt [⟨tg, iter, ifs, 0⟩] scope pos) (some (.Name y py)) spos.line X.env = pure true) (ok : BlkOk X.N X.env.scope scope own) (hi : PI X tg iter (tMI T W it))
    (hg : ∀ (s : Shared) (H : Hp) (C : Addr) (cl : List (Str × Addr)) (fp : List Addr), L2.PG (X.blk s H scope (compEnvC scope cl C X.env) fp) tg (gD T t)) (ht : ∀ (s : Shared) (H : Hp) (C : Addr) (cl : List (Str × Addr)) (fp : List Addr), PTs (X.blk s H scope (compEnvC scope cl C X.env) fp) ifs (tMT T W0 c))
    (he : ∀ (s : Shared) (H : Hp) (C : Addr) (cl : List (Str × Addr)) (fp : List Addr), PE (X.blk s H scope (compEnvC scope cl C X.env) fp) elt (tM T W0 el)) (hy : X.N[i]? = some y := by rfl) (hyl : X.env.scope.names.lookup y = some .local := by rfl) (hs : ∀ x, foldedSetIterable iter X.env x = pure x := by intro _; rfl) (hsl : ∀ i ∈ t.slots, i ∈ vs := by decide) (hc : X.calm = true := by rfl) (hvs : own.map (·.2) = vs := by rfl) :
    PS X (.Assign [.Name y py] (.ListComp elt [⟨tg, iter, ifs, 0⟩] scope pos) spos) (tS T e W (ofM (compF it t vs c el) (ownF i))) :=
  by
  subst hvs
  exact PS.imp (ps_setLc hc hN hy hyl hsw hi ok hg ht he hs) fun Dn σ H q => comp_read hsl (st_own q)
/-- name = [.. for .. for ..] -/
theorem setc2_ {i : Nat} {y : Str} {py : Pos} {elt tg iter tg1 iter1 : Expr} {ifs ifs1 : List Expr} {scope : Scope} {own : List (Str × Nat)} {vs : List Nat} {pos spos : Pos} {it it1 : List SV → M (List D)} {t t1 : Tg} {c c1 : List SV → M Bool} {el : List SV → M D} (vs1 : List Nat)
    (hN : X.N.Nodup) (hsw : swapsWith (.ListComp elt [⟨tg, iter, ifs, 0⟩, ⟨tg1, iter1, ifs1, 0⟩] scope pos) (some (.Name y py)) spos.line X.env = pure true) (ok : BlkOk X.N X.env.scope scope own) (hi : PI X tg iter (tMI T W it))
    (hg : ∀ (s : Shared) (H : Hp) (C : Addr) (cl : List (Str × Addr)) (fp : List Addr), L2.PG (X.blk s H scope (compEnvC scope cl C X.env) fp) tg (gD T t)) (ht : ∀ (s : Shared) (H : Hp) (C : Addr) (cl : List (Str × Addr)) (fp : List Addr), PTs (X.blk s H scope (compEnvC scope cl C X.env) fp) ifs (tMT T W0 c))
    (hi1 : ∀ (s : Shared) (H : Hp) (C : Addr) (cl : List (Str × Addr)) (fp : List Addr), PI (X.blk s H scope (compEnvC scope cl C X.env) fp) tg1 iter1 (tMI T W0 it1))
    (hg1 : ∀ (s : Shared) (H : Hp) (C : Addr) (cl : List (Str × Addr)) (fp : List Addr), L2.PG (X.blk s H scope (compEnvC scope cl C X.env) fp) tg1 (gD T t1)) (ht1 : ∀ (s : Shared) (H : Hp) (C : Addr) (cl : List (Str × Addr)) (fp : List Addr), PTs (X.blk s H scope (compEnvC scope cl C X.env) fp) ifs1 (tMT T W0 c1))
    (he : ∀ (s : Shared) (H : Hp) (C : Addr) (cl : List (Str × Addr)) (fp : List Addr), PE (X.blk s H scope (compEnvC scope cl C X.env) fp) elt (tM T W0 el)) (hy : X.N[i]? = some y := by rfl) (hyl : X.env.scope.names.lookup y = some .local := by rfl) (hs : ∀ x, foldedSetIterable iter X.env x = pure x := by intro _; rfl) (hs1 : ∀ env x, foldedSetIterable iter1 env x = pure x := by intro _ _; rfl) (hv : ∀ i ∈ vs1, i ∈ vs := by decide) (hsl : ∀ i ∈ t.slots, i ∈ vs := by decide) (hsl1 : ∀ i ∈ t1.slots, i ∈ vs1 := by decide) (hc : X.calm = true := by rfl) (hvs : own.map (·.2) = vs := by rfl) :
    PS X (.Assign [.Name y py] (.ListComp elt [⟨tg, iter, ifs, 0⟩, ⟨tg1, iter1, ifs1, 0⟩] scope pos) spos) (tS T e W (ofM (fun sd => compF2 it t vs c it1 t1 vs1 c1 el sd >>= fun r => pure (.lst r)) (setF i))) :=
  by
  subst hvs
  exact PS.imp (ps_setLc2 hc hN hy hyl hsw hi ok hv hg ht hi1 hg1 ht1 he hs hs1) fun Dn σ H q => comp_read2 hsl hsl1 (tRF_of (st_val q))
end
end Q
set_option Elab.async false
set_option linter.all false
set_option maxRecDepth 100000
set_option maxHeartbeats 4000000
namespace Q
open PySem PySem.Spec PyProof.Rows L2
abbrev EF := List SV → M D
abbrev TF := List SV → M Bool
abbrev AF := List SV → M (List D)
def litE (d : D) : EF := fun _ => pure d
def opE (h : D → D → Option D) (f g : EF) : EF := fun sd => f sd >>= fun x => g sd >>= fun y => M.lift (h x y)
def ixE (f g : EF) : EF := fun sd => f sd >>= fun x => g sd >>= fun y => M.liftS fun S => ixD S x y
def slE (f : EF) (l h : List SV → M (Option Int)) : EF := fun sd => f sd >>= fun x => l sd >>= fun i => h sd >>= fun j => M.lift (slD x i j)
def nilA : AF := fun _ => pure []
def consA (f : EF) (g : AF) : AF := fun sd => f sd >>= fun d => g sd >>= fun ds => pure (d :: ds)
def tupE (g : AF) : EF := fun sd => g sd >>= mkTup
def lstE (g : AF) : EF := fun sd => g sd >>= mkLst
def andE (f g : EF) : EF := fun sd => f sd >>= fun d => asB d >>= fun c => if c then g sd else pure (D.bl false)
def orE (f g : EF) : EF := fun sd => f sd >>= fun d => asB d >>= fun c => if c then pure (D.bl true) else g sd
def notE (f : EF) : EF := fun sd => f sd >>= notM
def negE (f : EF) : EF := fun sd => f sd >>= negM
def iteE (h : TF) (f g : EF) : EF := fun sd => h sd >>= fun c => if c then f sd else g sd
def chainE (r r' : D → D → Option D) (f g h : EF) : EF := fun sd => f sd >>= fun x => g sd >>= fun y => chainD r r' x y (h sd)
def callE (g : List D → M D) (h : AF) : EF := fun sd => h sd >>= g
def biE (r : List D → Option D) (h : AF) : EF := fun sd => h sd >>= fun ds => M.lift (r ds)
def isiE (tn : String) (f : EF) : EF := fun sd => f sd >>= fun d => M.lift (isiD tn d)
def valT (f : EF) : TF := fun sd => f sd >>= asB
def andT (f g : TF) : TF := fun sd => f sd >>= fun c => if c then g sd else pure false
def orT (f g : TF) : TF := fun sd => f sd >>= fun c => if c then pure true else g sd
def notT (f : TF) : TF := fun sd => f sd >>= fun c => pure (!c)
def yesT : TF := fun _ => pure true
def frsE (f : AF) : EF := fun sd => f sd >>= fun r => pure (.lst r)
def seqI (f : EF) : AF := fun sd => f sd >>= fun d => M.lift (itemsD d)
def rngI (h : AF) : AF := fun sd => h sd >>= fun ds => M.lift (rangeD ds)
def enumM : List D → M (List D)
  | [d] => M.lift ((itemsE d).map (numD 0))
  | _ => M.bad
def enumI (h : AF) : AF := fun sd => h sd >>= enumM
def zipI (h : AF) : AF := fun sd => h sd >>= zipM
section
variable {X : Cx} {T : Tb} {W : WX} {e : Wo}
theorem xN {j pos} : PE X (.Constant .none j pos) (tM T W (litE .non)) := je_non
theorem xB {b j pos} : PE X (.Constant (.bool b) j pos) (tM T W (litE (.bl b))) := je_bl
theorem xI {i j pos} : PE X (.Constant (.int i) j pos) (tM T W (litE (.int i))) := je_int
theorem xS {x j pos} : PE X (.Constant (.str x) j pos) (tM T W (litE (.str x))) := je_str
theorem xV {i : Nat} {x : Str} {pos : Pos} (hN : X.N[i]? = some x := by rfl) (hv : Vis X.env.scope x := by first | exact .inl rfl | exact .inr (.inl rfl) | exact .inr (.inr rfl)) (hd : (x == ("__debug__" : Str)) = false := by decide) (hcd : (x == ("__classdict__" : Str)) = false := by decide) : PE X (.Name x pos) (tM T W (getv i)) := je_var hN hv hd hcd
theorem xW {i : Nat} {x : Str} {pos : Pos} (hN : X.N[i]? = some x := by rfl) (hv : Vis X.env.scope x := by first | exact .inl rfl | exact .inr (.inl rfl) | exact .inr (.inr rfl)) (hd : (x == ("__debug__" : Str)) = false := by decide) (hcd : (x == ("__classdict__" : Str)) = false := by decide) : PE X (.Name x pos) (tMB T W (getb i)) := jb_var hN hv hd hcd
theorem xFn {f : Nat} {a : Addr} {x : Str} {pos : Pos} (hm : X.mg x = some (.ref a)) (hf : T.fa f = some a) (hg : Gl X x := by rfl) (hd : (x == ("__debug__" : Str)) = false := by decide) : PE X (.Name x pos) (tM T W (litE (.fn f))) := je_fn hg hm hf hd
theorem L_ {a : Expr} {f : EF} (h : PE X a (tM T W f)) : PE X a (tMB T W f) := lend h
theorem a0 : PA X [] (tML T W nilA) := ja_nil
theorem a1 {a : Expr} {es : List Expr} {f : EF} {g : AF} (ha : PE X a (tM T W f)) (hr : PA X es (tML T W g)) (hs : starEach (a :: es) X.env = (false, eval a X.env) :: starEach es X.env := by rfl) : PA X (a :: es) (tML T W (consA f g)) := ja_cons ha hr hs
theorem b0 : PA X [] (tMBL T W nilA) := jab_nil
theorem b1 {a : Expr} {es : List Expr} {f : EF} {g : AF} (ha : PE X a (tMB T W f)) (hr : PA X es (tMBL T W g)) (hs : starEach (a :: es) X.env = (false, eval a X.env) :: starEach es X.env := by rfl) : PA X (a :: es) (tMBL T W (consA f g)) := jab_cons ha hr hs
theorem xTup {es : List Expr} {x1 pos} {g : AF} (h : PA X es (tML T W g)) : PE X (.Tuple es x1 pos) (tM T W (tupE g)) := je_tup h
theorem xLst {es : List Expr} {pos} {g : AF} (h : PA X es (tML T W g)) : PE X (.List es pos) (tM T W (lstE g)) := je_lst h
theorem xadd {a b : Expr} {pos : Pos} {f g : EF} (ha : PE X a (tMB T W f)) (hb : PE X b (tMB T W g)) (k : Lk T X := by exact ⟨rfl, rfl, rfl⟩) : PE X (.BinOp a .Add b pos) (tM T W (opE addD f g)) := je_op (add_D k) ha hb
theorem xsub {a b : Expr} {pos : Pos} {f g : EF} (ha : PE X a (tMB T W f)) (hb : PE X b (tMB T W g)) (k : Lk T X := by exact ⟨rfl, rfl, rfl⟩) : PE X (.BinOp a .Sub b pos) (tM T W (opE subD f g)) := je_op (sub_D k) ha hb
theorem xmul {a b : Expr} {pos : Pos} {f g : EF} (ha : PE X a (tMB T W f)) (hb : PE X b (tMB T W g)) (k : Lk T X := by exact ⟨rfl, rfl, rfl⟩) : PE X (.BinOp a .Mult b pos) (tM T W (opE mulD f g)) := je_op (mul_D k) ha hb
theorem xfdiv {a b : Expr} {pos : Pos} {f g : EF} (ha : PE X a (tMB T W f)) (hb : PE X b (tMB T W g)) (k : Lk T X := by exact ⟨rfl, rfl, rfl⟩) : PE X (.BinOp a .FloorDiv b pos) (tM T W (opE fdivD f g)) := je_op (fdiv_D k) ha hb
theorem xmod {a b : Expr} {pos : Pos} {f g : EF} (ha : PE X a (tMB T W f)) (hb : PE X b (tMB T W g)) (k : Lk T X := by exact ⟨rfl, rfl, rfl⟩) : PE X (.BinOp a .Mod b pos) (tM T W (opE modD f g)) := je_op (mod_D k) ha hb
theorem xpow {a b : Expr} {pos : Pos} {f g : EF} (ha : PE X a (tMB T W f)) (hb : PE X b (tMB T W g)) (k : Lk T X := by exact ⟨rfl, rfl, rfl⟩) : PE X (.BinOp a .Pow b pos) (tM T W (opE powD f g)) := je_op (pow_D k) ha hb
theorem xcmp (op : CmpOp) {a b : Expr} {pos : Pos} {f g : EF} (hu : X.A.units + 65 < cLine) (ha : PE X a (tMB T W f)) (hb : PE X b (tMB T W g)) (hm : behindInMarks op b = false := by first | exact nomark _ | rfl) (k : Lk T X := by exact ⟨rfl, rfl, rfl⟩) : PE X (.Compare a [op] [b] pos) (tM T W (opE (cmpD op) f g)) := je_cmp (cmp_D hu k op) ha hb hm
theorem tcmp (op : CmpOp) {a b : Expr} {pos : Pos} {f g : EF} (hu : X.A.units + 65 < cLine) (ha : PE X a (tMB T W f)) (hb : PE X b (tMB T W g)) (hm : behindInMarks op b = false := by first | exact nomark _ | rfl) (k : Lk T X := by exact ⟨rfl, rfl, rfl⟩) : PT X (.Compare a [op] [b] pos) (tMT T W (valT (opE (cmpD op) f g))) := jt_cmp (cmp_D hu k op) ha hb hm
theorem xchain (op op' : CmpOp) {a b c : Expr} {pos : Pos} {f g h : EF} (hu : X.A.units + 65 < cLine) (ha : PE X a (tMB T W f)) (hb : PE X b (tMB T W g)) (hc : PE X c (tMB T W h)) (hm : lastMarks [op, op'] [b, c] = false := by with_unfolding_all rfl) (k : Lk T X := by exact ⟨rfl, rfl, rfl⟩) : PE X (.Compare a [op, op'] [b, c] pos) (tM T W (chainE (cmpD op) (cmpD op') f g h)) := je_chain (cmp_D hu k op) (cmp_D hu k op') ha hb hc hm
theorem xix {a b : Expr} {pos : Pos} {f g : EF} (hu : X.A.units + 65 < cLine) (ha : PE X a (tMB T W f)) (hb : PE X b (tMB T W g)) (hs : PlainIx b := by exact fun _ _ => rfl) (k : Lk T X := by exact ⟨rfl, rfl, rfl⟩) : PE X (.Subscript a b pos) (tM T W (ixE f g)) := je_ix hu k ha hb hs
theorem o0 : PO X none (tMO T W (partO none)) := jo_none
theorem o1 {a : Expr} {f : EF} (h : PE X a (tM T W f)) : PO X (some a) (tMO T W (partO (some f))) := jo_some h
theorem xsl {a : Expr} {lo hi : Option Expr} {p2 pos : Pos} {f : EF} {l h : List SV → M (Option Int)} (ha : PE X a (tMB T W f)) (hl : PO X lo (tMO T W l)) (hh : PO X hi (tMO T W h)) (k : Lk T X := by exact ⟨rfl, rfl, rfl⟩) : PE X (.Subscript a (.Slice lo hi none p2) pos) (tM T W (slE f l h)) := je_sl k ha hl hh
theorem xand1 {a : Expr} {f : EF} {op pos} (ha : PE X a (tM T W f)) : PE X (.BoolOp op [a] pos) (tM T W f) := pe_one ha
theorem xand {a b : Expr} {rest : List Expr} {f g : EF} {pos} (ha : PE X a (tM T W f)) (hb : PE X (.BoolOp .And (b :: rest) pos) (tM T W g)) : PE X (.BoolOp .And (a :: b :: rest) pos) (tM T W (andE f g)) := je_and ha hb
theorem xor {a b : Expr} {rest : List Expr} {f g : EF} {pos} (ha : PE X a (tM T W f)) (hb : PE X (.BoolOp .Or (b :: rest) pos) (tM T W g)) : PE X (.BoolOp .Or (a :: b :: rest) pos) (tM T W (orE f g)) := je_or ha hb
theorem xnot {a : Expr} {f : EF} {pos} (ha : PE X a (tM T W f)) : PE X (.UnaryOp .Not a pos) (tM T W (notE f)) := je_not ha
theorem xneg {a : Expr} {f : EF} {pos} (ha : PE X a (tM T W f)) : PE X (.UnaryOp .USub a pos) (tM T W (negE f)) := je_neg ha
theorem xite {c a b : Expr} {h : TF} {f g : EF} {pos} (hc : PT X c (tMT T W h)) (ha : PE X a (tM T W f)) (hb : PE X b (tM T W g)) : PE X (.IfExp c a b pos) (tM T W (iteE h f g)) := je_ite hc ha hb
theorem tval {a : Expr} {f : EF} (h : PE X a (tM T W f)) (he : ∀ whole, isTrue a X.env whole = (do let v ← whole; standAt a.pos; holding [v] (truthy v)) := by intro _; rfl) : PT X a (tMT T W (valT f)) := jt_val h he
theorem tand1 {a : Expr} {f : TF} {pos} (ha : PT X a (tMT T W f)) : PW X (.BoolOp .And [a] pos) (tMT T W f) := pw_and1 ha
theorem tor1 {a : Expr} {f : TF} {pos} (ha : PT X a (tMT T W f)) : PW X (.BoolOp .Or [a] pos) (tMT T W f) := pw_or1 ha
theorem tand {a b : Expr} {rest : List Expr} {f g : TF} {pos} (ha : PT X a (tMT T W f)) (hb : PW X (.BoolOp .And (b :: rest) pos) (tMT T W g)) : PW X (.BoolOp .And (a :: b :: rest) pos) (tMT T W (andT f g)) := jt_and ha hb
theorem tor {a b : Expr} {rest : List Expr} {f g : TF} {pos} (ha : PT X a (tMT T W f)) (hb : PW X (.BoolOp .Or (b :: rest) pos) (tMT T W g)) : PW X (.BoolOp .Or (a :: b :: rest) pos) (tMT T W (orT f g)) := jt_or ha hb
theorem tnot {a : Expr} {f : TF} {pos} (ha : PT X a (tMT T W f)) : PT X (.UnaryOp .Not a pos) (tMT T W (notT f)) := jt_not ha
theorem xcall {k f : Nat} {x : Str} {ps : List Str} {g : List D → M D} {a : Expr} {es : List Expr} {p pos : Pos} {h : AF} (tk : L2N.Takes X W) (hr : Room k X.A) (F : FnD T X.mg X.base k f x ps g) (ha : PA X (a :: es) (tML T W h))
    (hlen : LenM (a :: es).length h := by repeat (first | exact lenM_nil | apply lenM_cons)) (hg : Gl X x := by rfl) (hl : (a :: es).length = ps.length := by rfl) (hdb : (x == ("__debug__" : Str)) = false := by decide) (he : starEach (a :: es) X.env = (false, eval a X.env) :: starEach es X.env := by rfl) (hpl : (backTo pos (starEach es X.env)).any (·.1) = false := by rfl) (l : Lk T X := by exact ⟨rfl, rfl, rfl⟩) :
    PE X (.Call (.Name x p) (a :: es) [] pos) (tM T W (callE g h)) := je_call l tk F hr hg ha hl hlen hdb he hpl
theorem xbi {a : Expr} {es : List Expr} {x : Str} {id : String} {p pos : Pos} {h : AF} {r : List D → Option D} (hc : CallR X (.builtin id) (rC T r)) (hm : X.mg x = none) (ha : PA X (a :: es) (tMBL T W h)) (hg : Gl X x := by rfl) (hv : bootBuiltins x = some (.builtin id) := by decide +kernel) (hn : x ≠ "__name__" := by decide) (hdb : (x == ("__debug__" : Str)) = false := by decide)
    (he : starEach (a :: es) X.env = (false, eval a X.env) :: starEach es X.env := by rfl) (hpl : (backTo pos (starEach es X.env)).any (·.1) = false := by rfl) : PE X (.Call (.Name x p) (a :: es) [] pos) (tM T W (biE r h)) := je_bi hc hg hm hv ha hn hdb he hpl
theorem xty {a : Expr} {es : List Expr} {x : Str} {id : String} {p pos : Pos} {h : AF} {r : List D → Option D} (hc : CallR X (.type id) (rC T r)) (hm : X.mg x = none) (ha : PA X (a :: es) (tMBL T W h)) (hg : Gl X x := by rfl) (hv : bootBuiltins x = some (.type id) := by decide +kernel) (hn : x ≠ "__name__" := by decide) (hdb : (x == ("__debug__" : Str)) = false := by decide)
    (he : starEach (a :: es) X.env = (false, eval a X.env) :: starEach es X.env := by rfl) (hpl : (backTo pos (starEach es X.env)).any (·.1) = false := by rfl) : PE X (.Call (.Name x p) (a :: es) [] pos) (tM T W (biE r h)) := je_ty hc hg hm hv ha hn hdb he hpl
theorem xlen {a : Expr} {p pos : Pos} {h : AF} (hm : X.mg "len" = none) (ha : PA X [a] (tMBL T W h)) (k : Lk T X := by exact ⟨rfl, rfl, rfl⟩) (hg : Gl X "len" := by rfl) (he : starEach [a] X.env = (false, eval a X.env) :: starEach [] X.env := by rfl) (hpl : (backTo pos (starEach [] X.env)).any (·.1) = false := by rfl) : PE X (.Call (.Name "len" p) [a] [] pos) (tM T W (biE lenD h)) := xbi (len_D k) hm ha hg (by decide +kernel) (by decide) (by decide) he hpl
theorem xall {a : Expr} {p pos : Pos} {h : AF} (hm : X.mg "all" = none) (ha : PA X [a] (tMBL T W h)) (k : Lk T X := by exact ⟨rfl, rfl, rfl⟩) (hc : X.calm = true := by rfl) (hg : Gl X "all" := by rfl) (he : starEach [a] X.env = (false, eval a X.env) :: starEach [] X.env := by rfl) (hpl : (backTo pos (starEach [] X.env)).any (·.1) = false := by rfl) : PE X (.Call (.Name "all" p) [a] [] pos) (tM T W (biE allD h)) := xbi (all_D k hc) hm ha hg (by decide +kernel) (by decide) (by decide) he hpl
theorem xany {a : Expr} {p pos : Pos} {h : AF} (hm : X.mg "any" = none) (ha : PA X [a] (tMBL T W h)) (k : Lk T X := by exact ⟨rfl, rfl, rfl⟩) (hc : X.calm = true := by rfl) (hg : Gl X "any" := by rfl) (he : starEach [a] X.env = (false, eval a X.env) :: starEach [] X.env := by rfl) (hpl : (backTo pos (starEach [] X.env)).any (·.1) = false := by rfl) : PE X (.Call (.Name "any" p) [a] [] pos) (tM T W (biE anyD h)) := xbi (any_D k hc) hm ha hg (by decide +kernel) (by decide) (by decide) he hpl
theorem xmin2 {a b : Expr} {p pos : Pos} {h : AF} (hm : X.mg "min" = none) (ha : PA X [a, b] (tMBL T W h)) (k : Lk T X := by exact ⟨rfl, rfl, rfl⟩) (hc : X.calm = true := by rfl) (hg : Gl X "min" := by rfl) (he : starEach [a, b] X.env = (false, eval a X.env) :: starEach [b] X.env := by rfl) (hpl : (backTo pos (starEach [b] X.env)).any (·.1) = false := by rfl) : PE X (.Call (.Name "min" p) [a, b] [] pos) (tM T W (biE min2D h)) := xbi (min2_D k hc) hm ha hg (by decide +kernel) (by decide) (by decide) he hpl
theorem xmax2 {a b : Expr} {p pos : Pos} {h : AF} (hm : X.mg "max" = none) (ha : PA X [a, b] (tMBL T W h)) (k : Lk T X := by exact ⟨rfl, rfl, rfl⟩) (hc : X.calm = true := by rfl) (hg : Gl X "max" := by rfl) (he : starEach [a, b] X.env = (false, eval a X.env) :: starEach [b] X.env := by rfl) (hpl : (backTo pos (starEach [b] X.env)).any (·.1) = false := by rfl) : PE X (.Call (.Name "max" p) [a, b] [] pos) (tM T W (biE max2D h)) := xbi (max2_D k hc) hm ha hg (by decide +kernel) (by decide) (by decide) he hpl
theorem xtuple {a : Expr} {p pos : Pos} {h : AF} (hm : X.mg "tuple" = none) (ha : PA X [a] (tMBL T W h)) (k : Lk T X := by exact ⟨rfl, rfl, rfl⟩) (hg : Gl X "tuple" := by rfl) (he : starEach [a] X.env = (false, eval a X.env) :: starEach [] X.env := by rfl) (hpl : (backTo pos (starEach [] X.env)).any (·.1) = false := by rfl) : PE X (.Call (.Name "tuple" p) [a] [] pos) (tM T W (biE tupleD h)) := xty (tuple_D k) hm ha hg (by decide +kernel) (by decide) (by decide) he hpl
theorem xlist {a : Expr} {p pos : Pos} {h : AF} (hm : X.mg "list" = none) (ha : PA X [a] (tMBL T W h)) (k : Lk T X := by exact ⟨rfl, rfl, rfl⟩) (hg : Gl X "list" := by rfl) (he : starEach [a] X.env = (false, eval a X.env) :: starEach [] X.env := by rfl) (hpl : (backTo pos (starEach [] X.env)).any (·.1) = false := by rfl) : PE X (.Call (.Name "list" p) [a] [] pos) (tM T W (biE listD h)) := xty (list_D k) hm ha hg (by decide +kernel) (by decide) (by decide) he hpl
theorem xint {a : Expr} {p pos : Pos} {h : AF} (hm : X.mg "int" = none) (ha : PA X [a] (tMBL T W h)) (k : Lk T X := by exact ⟨rfl, rfl, rfl⟩) (hg : Gl X "int" := by rfl) (he : starEach [a] X.env = (false, eval a X.env) :: starEach [] X.env := by rfl) (hpl : (backTo pos (starEach [] X.env)).any (·.1) = false := by rfl) : PE X (.Call (.Name "int" p) [a] [] pos) (tM T W (biE intD h)) := xty (int_D k) hm ha hg (by decide +kernel) (by decide) (by decide) he hpl
theorem xstr {a : Expr} {p pos : Pos} {h : AF} (hm : X.mg "str" = none) (ha : PA X [a] (tMBL T W h)) (k : Lk T X := by exact ⟨rfl, rfl, rfl⟩) (hg : Gl X "str" := by rfl) (he : starEach [a] X.env = (false, eval a X.env) :: starEach [] X.env := by rfl) (hpl : (backTo pos (starEach [] X.env)).any (·.1) = false := by rfl) : PE X (.Call (.Name "str" p) [a] [] pos) (tM T W (biE strD h)) := xty (str_D k) hm ha hg (by decide +kernel) (by decide) (by decide) he hpl
theorem xisi {a : Expr} {t : Str} {tn : String} {p p2 pos : Pos} {f : EF} (hm : X.mg "isinstance" = none) (hmt : X.mg t = none) (ha : PE X a (tMB T W f)) (hv : bootBuiltins t = some (.type tn) := by decide +kernel) (hg : Gl X "isinstance" := by rfl) (hgt : Gl X t := by rfl) (hn : t ≠ "__name__" := by decide) (hd : (t == ("__debug__" : Str)) = false := by decide)
    (he : starEach [a, .Name t p2] X.env = (false, eval a X.env) :: starEach [.Name t p2] X.env := by rfl) (he2 : starEach [.Name t p2] X.env = (false, eval (.Name t p2) X.env) :: starEach [] X.env := by rfl) (hpl : (backTo pos (starEach [.Name t p2] X.env)).any (·.1) = false := by rfl) (k : Lk T X := by exact ⟨rfl, rfl, rfl⟩) :
    PE X (.Call (.Name "isinstance" p) [a, .Name t p2] [] pos) (tM T W (isiE tn f)) := isi_ hm hmt ha hv hg hgt hn hd he he2 hpl k
theorem xf {a : Expr} {f : AF} (h : PE X a (tRF T W f)) : PE X a (tM T W (frsE f)) := je_of_f h
theorem iseq {tg a : Expr} {f : EF} (he : PE X a (tM T W f)) (k : Lk T X := by exact ⟨rfl, rfl, rfl⟩) : PI X tg a (tMI T W (seqI f)) := ji_seq k he
theorem irng1 {tg a : Expr} {p pos : Pos} {f : EF} (hm : X.mg "range" = none) (ha : PA X [a] (tML T W (consA f nilA))) (hg : Gl X "range" := by rfl) (hs : starEach [a] X.env = [(false, eval a X.env)] := by rfl) : PI X tg (.Call (.Name "range" p) [a] [] pos) (tMI T W (rngI (consA f nilA))) := by
  have h := ji_range1 (tg := tg) (p := p) (pos := pos) hg hm ha hs
  have e : (rngI (consA f nilA)) = fun sd => consA f nilA sd >>= fun ds => match ds with | [.int j] => M.lift (rangeD [.int j]) | _ => M.bad := by
    funext sd S
    unfold rngI
    rw [bind_ap, bind_ap]
    cases q : consA f nilA sd S with
    | bad => rfl
    | exc x S1 => rfl
    | ok ds S1 =>
      have hl := lenM_cons (f := f) lenM_nil sd S ds S1 q
      match ds, hl with
      | [d], _ => cases d <;> rfl
  rw [e]; exact h
theorem irng2 {tg a b : Expr} {p pos : Pos} {f g : EF} (hm : X.mg "range" = none) (ha : PA X [a, b] (tML T W (consA f (consA g nilA)))) (hg : Gl X "range" := by rfl) (hs : starEach [a, b] X.env = [(false, eval a X.env), (false, eval b X.env)] := by rfl) (hs2 : starEach [b] X.env = [(false, eval b X.env)] := by rfl) : PI X tg (.Call (.Name "range" p) [a, b] [] pos) (tMI T W (rngI (consA f (consA g nilA)))) := by
  have h := ji_range2 (tg := tg) (p := p) (pos := pos) hg hm ha hs hs2
  have e : (rngI (consA f (consA g nilA))) = fun sd => consA f (consA g nilA) sd >>= fun ds => match ds with | [.int i, .int j] => M.lift (rangeD [.int i, .int j]) | _ => M.bad := by
    funext sd S
    unfold rngI
    rw [bind_ap, bind_ap]
    cases q : consA f (consA g nilA) sd S with
    | bad => rfl
    | exc x S1 => rfl
    | ok ds S1 =>
      have hl := lenM_cons (f := f) (lenM_cons (f := g) lenM_nil) sd S ds S1 q
      match ds, hl with
      | [d, d'], _ => cases d <;> cases d' <;> rfl
  rw [e]; exact h
theorem ienum {a : Expr} {p pos tpos : Pos} {elts : List Expr} {kk : Nat} {h : AF} (hm : X.mg "enumerate" = none) (ha : PA X [a] (tML T W h)) (hg : Gl X "enumerate" := by rfl) (hs : starEach [a] X.env = [(false, eval a X.env)] := by rfl) (k : Lk T X := by exact ⟨rfl, rfl, rfl⟩) : PI X (.Tuple elts kk tpos) (.Call (.Name "enumerate" p) [a] [] pos) (tMI T W (enumI h)) := ji_enum k hg hm ha hs
theorem izip {a b : Expr} {p pos tpos : Pos} {elts : List Expr} {kk : Nat} {h : AF} (hm : X.mg "zip" = none) (ha : PA X [a, b] (tML T W h)) (hg : Gl X "zip" := by rfl) (hs : starEach [a, b] X.env = (false, eval a X.env) :: starEach [b] X.env := by rfl) (hpl : (backTo pos (starEach [b] X.env)).any (·.1) = false := by rfl) (k : Lk T X := by exact ⟨rfl, rfl, rfl⟩) : PI X (.Tuple elts kk tpos) (.Call (.Name "zip" p) [a, b] [] pos) (tMI T W (zipI h)) := ji_zip k hg hm ha hs hpl
theorem gN {i : Nat} {x : Str} {pos : Pos} (hN : X.N.Nodup) (hi : X.N[i]? = some x := by rfl) (hx : Loc X.env.scope x := by first | exact .inl rfl | exact .inr rfl) (hf : X.fn x = true ∨ X.env.scope.names.lookup x = some .local := by first | exact .inl rfl | exact .inr rfl) : L2.PG X (.Name x pos) (gD T (.nm i)) := jg_nm hN hi hx hf
theorem g0 : L2.PGs X [] (gDs T []) := jgs_nil
theorem g1 {a : Expr} {es : List Expr} {t : Tg} {ts : List Tg} (h1 : L2.PG X a (gD T t)) (h2 : L2.PGs X es (gDs T ts)) (hs : List.map (fun x => x.snd) (assignEach (a :: es) X.env) = assign a X.env :: List.map (fun x => x.snd) (assignEach es X.env) := by rfl) : L2.PGs X (a :: es) (gDs T (t :: ts)) := jgs_cons h1 h2 hs
theorem gT {es : List Expr} {kk : Nat} {pos : Pos} {ts : List Tg} (h : L2.PGs X es (gDs T ts)) (hp : L2.PG X (.Tuple es kk pos) (gTup X.K ts.length (gDs T ts))) (l : Lk T X := by exact ⟨rfl, rfl, rfl⟩) (hc : X.calm = true := by rfl) : L2.PG X (.Tuple es kk pos) (gD T (.tp ts)) := jg_tp l hc h hp
theorem s0 : PSs X [] (tS T e W nxF) := jss_nil
theorem s1 {st : Stmt} {rest : List Stmt} {f g : SF} (h1 : PS X st (tS T e W f)) (h2 : PSs X rest (tS T e W g)) : PSs X (st :: rest) (tS T e W (seqF f g)) := jss_cons h1 h2
theorem sdoc {x j pos pos'} : PS X (.Expr (.Constant (.str x) j pos) pos') (tS T e W nxF) := PS.imp ps_doc fun Dn σ H ⟨sd, S, w, e1, s, q⟩ => by
  subst e1
  exact q σ w (.refl w) s
theorem sret {a : Expr} {pos : Pos} {f : EF} (h : PE X a (tM T W f)) : PS X (.Return (some a) pos) (tS T e W (ofM f retF)) := js_ret h
theorem sretN {pos : Pos} : PS X (.Return none pos) (tS T e W (retF .non)) := js_retN
theorem sloc {a : Expr} {pos : Pos} {f : AF} (h : PE X a (tRF T W f)) : PS X (.Return (some a) pos) (tS T e W (ofM f locF)) := js_loc h
theorem sexpr {a : Expr} {pos : Pos} {f : EF} (h : PE X a (tM T W f)) (hs : swapsWith a none pos.line X.env = pure false := by rfl) : PS X (.Expr a pos) (tS T e W (ofM f fun _ => nxF)) := js_expr h hs
theorem sset {i : Nat} {x : Str} {a : Expr} {pos pos' : Pos} {f : EF} (hN : X.N.Nodup) (h : PE X a (tM T W f)) (hi : X.N[i]? = some x := by rfl) (hx : Loc X.env.scope x := by first | exact .inl rfl | exact .inr rfl) (hs : swapsWith a (some (.Name x pos')) pos.line X.env = pure false := by rfl) (hf : X.fn x = true ∨ X.env.scope.names.lookup x = some .local := by first | exact .inl rfl | exact .inr rfl) : PS X (.Assign [.Name x pos'] a pos) (tS T e W (ofM f (setF i))) := js_set hN hi hx h hs hf
theorem sown {i : Nat} {x : Str} {a : Expr} {pos pos' : Pos} {f : AF} (hN : X.N.Nodup) (h : PE X a (tRF T W f)) (hi : X.N[i]? = some x := by rfl) (hx : Loc X.env.scope x := by first | exact .inl rfl | exact .inr rfl) (hs : swapsWith a (some (.Name x pos')) pos.line X.env = pure false := by rfl) (hf : X.fn x = true ∨ X.env.scope.names.lookup x = some .local := by first | exact .inl rfl | exact .inr rfl) : PS X (.Assign [.Name x pos'] a pos) (tS T e W (ofM f (ownF i))) := js_own hN hi hx h hs hf
theorem sasg {t : Tg} {tg a : Expr} {pos : Pos} {f : EF} (h : PE X a (tM T W f)) (hg : L2.PG X tg (gD T t)) (hs : swapsWithSole [tg] a pos.line X.env = pure false := by rfl) (hw : swappedStores [tg] a X.env = pure none := by rfl) (h1 : List.map (fun x => x.snd) (assignEach [tg] X.env) = [assign tg X.env] := by rfl) : PS X (.Assign [tg] a pos) (tS T e W (ofM f (asgF t))) := js_asg h hg hs hw h1
theorem sif {c : Expr} {a b : List Stmt} {pos : Pos} {m : TF} {f g : SF} (hc : PT X c (tMT T W m)) (ha : PSs X a (tS T e W f)) (hb : PSs X b (tS T e W g)) : PS X (.If c a b pos) (tS T e W (ofM m (ifF f g))) := js_if hc ha hb
theorem sfrz {st : Stmt} {f : SF} (i : Nat) (h : PS X st (tS T e W f)) : PS X st (tS T e W (frzF i f)) := js_frz i h
theorem sfor {t : Tg} {tg iter : Expr} {body : List Stmt} {pos : Pos} {it : AF} {f : SF} (hp : PassesOwn (model X.prog X.w) X.A X.env X.xe) (hi : PI X tg iter (tMI T W it)) (hg : L2.PG X tg (gD T t)) (hb : PSs X body (tS T e W f)) (hc : X.calm = true := by rfl) (hs : ∀ x, foldedSetIterable iter X.env x = pure x := by intro _; rfl) : PS X (.For tg iter body [] pos) (tS T e W (ofM it (forF t f))) := js_for hp hc hi hg hb hs
theorem swhile {c : Expr} {body : List Stmt} {pos : Pos} {m : TF} {f : SF} (n : Nat) (hp : PassesOwn (model X.prog X.w) X.A X.env X.xe) (hc : PT X c (tMT T W m)) (hb : PSs X body (tS T e W f)) : PS X (.While c body [] pos) (tS T e W (whileF m f n)) := js_while n hp hc hb
theorem sapp {i : Nat} {x : Str} {a : Expr} {p1 p2 p3 pos : Pos} {f : EF} (ha : PE X a (tM T W f)) (mk : ∀ {t : TE} {u : TA}, PE X (.Name x p1) t → PA X [a] u → PE X (.Call (.Attribute (.Name x p1) "append" p2) [a] [] p3) (tBM X.K "list" rAppend t u)) (hN : X.N[i]? = some x := by rfl) (hv : Vis X.env.scope x := by first | exact .inl rfl | exact .inr (.inl rfl) | exact .inr (.inr rfl)) (hd : (x == ("__debug__" : Str)) = false := by decide) (hcd : (x == ("__classdict__" : Str)) = false := by decide)
    (hs1 : starEach [a] X.env = (false, eval a X.env) :: starEach [] X.env := by rfl) (hs : swapsWith (.Call (.Attribute (.Name x p1) "append" p2) [a] [] p3) none pos.line X.env = pure false := by rfl) : PS X (.Expr (.Call (.Attribute (.Name x p1) "append" p2) [a] [] p3) pos) (tS T e W (appF i f)) := js_app hN hv hd hcd ha mk hs1 hs
theorem sput {i : Nat} {x : Str} {a b : Expr} {p1 p2 pos : Pos} {f g : EF} (ha : PE X a (tM T W f)) (hb : PE X b (tM T W g)) (mk : ∀ {to ti tv : TE}, PE X (.Name x p1) to → PE X b ti → PE X a tv → PS X (.Assign [.Subscript (.Name x p1) b p2] a pos) (tAsg tv (gSub to ti rSetL))) (hN : X.N[i]? = some x := by rfl) (hv : Vis X.env.scope x := by first | exact .inl rfl | exact .inr (.inl rfl) | exact .inr (.inr rfl)) (hd : (x == ("__debug__" : Str)) = false := by decide) (hcd : (x == ("__classdict__" : Str)) = false := by decide) : PS X (.Assign [.Subscript (.Name x p1) b p2] a pos) (tS T e W (putF i f g)) := js_put hN hv hd hcd ha hb mk
theorem slput {i : Nat} {x : Str} {a b : Expr} {p1 p2 pos : Pos} {f g : EF} (ha : PE X a (tM T W f)) (hb : PE X b (tM T W g)) (mk : ∀ {to ti tv : TE}, PE X (.Name x p1) to → PE X b ti → PE X a tv → PS X (.Assign [.Subscript (.Name x p1) b p2] a pos) (tAsg tv (gSub to ti rSetL))) (hN : X.N[i]? = some x := by rfl) (hv : Vis X.env.scope x := by first | exact .inl rfl | exact .inr (.inl rfl) | exact .inr (.inr rfl)) (hd : (x == ("__debug__" : Str)) = false := by decide) (hcd : (x == ("__classdict__" : Str)) = false := by decide) : PS X (.Assign [.Subscript (.Name x p1) b p2] a pos) (tS T e W (lputF i f g)) := js_lput hN hv hd hcd ha hb mk
theorem flst {es : List Expr} {pos} {g : AF} (h : PA X es (tML T W g)) : PE X (.List es pos) (tRF T W fun sd => g sd >>= fun ds => M.lift (if ds.length ≤ sizeLine then some ds else none)) :=
  PE.imp (pe_lst h) fun σ H Q ⟨sd, S, w, e1, d1, s1, q⟩ => ⟨sd, S, w, e1, d1, s1, PG.bnd (k := fun ds => M.lift (if ds.length ≤ sizeLine then some ds else none)) q fun ds S1 vs w1 x1 d1 r1 h1 => by
    by_cases hl : ds.length ≤ sizeLine
    · rw [if_pos hl] at h1
      refine ⟨by rw [← r1.length]; exact hl, fun p hp => ?_⟩
      have h0 : w.H p = none := Classical.byContradiction fun z => x1.there p z hp
      exact h1 (.ref p) ⟨w1.lam, w1.G, upd w1.H p (.lst vs)⟩ ((Ext.refl w1).poke hp) (d1.cell hp) ⟨p, vs, rfl, h0, upd_same, d1.sub.free hp, d1.nolam hp, r1⟩
    · rw [if_neg hl] at h1; exact h1.elim⟩
def flsF (g : AF) : AF := fun sd => g sd >>= fun ds => M.lift (if ds.length ≤ sizeLine then some ds else none)
/-- a new list by an operation that gives a new list whatever its arguments are -/
def slF (f : EF) (l h : List SV → M (Option Int)) : AF := fun sd => f sd >>= fun x => l sd >>= fun i => h sd >>= fun j => M.lift (match x with | .lst ds => some (cutD ds i j) | _ => none)
theorem fsl {a : Expr} {lo hi : Option Expr} {p2 pos : Pos} {f : EF} {l h : List SV → M (Option Int)} (ha : PE X a (tMB T W f)) (hl : PO X lo (tMO T W l)) (hh : PO X hi (tMO T W h)) : PE X (.Subscript a (.Slice lo hi none p2) pos) (tRF T W (slF f l h)) :=
  PE.imp (pe_slice sl_list ha hl hh) fun σ H Q ⟨sd, S, w, e1, d1, s1, q⟩ => ⟨sd, S, w, e1, d1, s1, PG.bnd (k := fun x => l sd >>= fun i => h sd >>= fun j => M.lift (match x with | .lst ds => some (cutD ds i j) | _ => none)) q fun dx S1 x w1 x1 d1 r1 h1 => by
    refine ⟨sd, S1, w1, rfl, d1, s1.ext x1, PG.bnd h1 fun di S2 i w2 x2 d2 r2 h2 => ?_⟩
    subst r2
    refine ⟨sd, S2, w2, rfl, d2, (s1.ext x1).ext x2, PG.bnd h2 fun dj S3 j w3 x3 d3 r3 h3 => ?_⟩
    subst r3
    cases dx <;> first | exact h3.elim | skip
    rename_i ds
    obtain ⟨p, vs, ep, g1, g2⟩ := RepB.lst_ d3 ((r1.ext x2).ext x3)
    refine ⟨p, vs, ep, .inl g1, fun p hp => ?_⟩
    have h0 : w.H p = none := Classical.byContradiction fun z => x3.there p (x2.there p (x1.there p z)) hp
    exact h3 (.ref p) ⟨w3.lam, w3.G, upd w3.H p (.lst (cutV vs di dj))⟩ ((Ext.refl w3).poke hp) (d3.cell hp) ⟨p, _, rfl, h0, upd_same, d3.sub.free hp, d3.nolam hp, g2.cut di dj⟩⟩
def addF (f g : EF) : AF := fun sd => f sd >>= fun x => g sd >>= fun y => M.lift (match x, y with | .lst ds, .lst es => (if ds.length + es.length ≤ sizeLine then some (ds ++ es) else none) | _, _ => none)
theorem fadd {a b : Expr} {pos : Pos} {f g : EF} (ha : PE X a (tMB T W f)) (hb : PE X b (tMB T W g)) : PE X (.BinOp a .Add b pos) (tRF T W (addF f g)) :=
  PE.imp (pe_op op_catR ha hb) fun σ H Q ⟨sd, S, w, e1, d1, s1, q⟩ => ⟨sd, S, w, e1, d1, s1, PG.bnd (k := fun x => g sd >>= fun y => M.lift (match x, y with | .lst ds, .lst es => (if ds.length + es.length ≤ sizeLine then some (ds ++ es) else none) | _, _ => none)) q fun dx S1 x w1 x1 d1 r1 h1 => by
    refine ⟨sd, S1, w1, rfl, d1, s1.ext x1, PG.bnd h1 fun dy S2 y w2 x2 d2 r2 h2 => ?_⟩
    cases dx <;> cases dy <;> first | exact h2.elim | skip
    rename_i ds es
    by_cases hl : ds.length + es.length ≤ sizeLine
    · simp only [if_pos hl] at h2
      obtain ⟨p, vs, ep, g1, g2⟩ := RepB.lst_ d2 (r1.ext x2)
      obtain ⟨p', us, ep', g3, g4⟩ := RepB.lst_ d2 r2
      refine ⟨p, p', vs, us, ep, ep', g1, g3, by rw [← g2.length, ← g4.length]; exact hl, fun p hp => ?_⟩
      have h0 : w.H p = none := Classical.byContradiction fun z => x2.there p (x1.there p z) hp
      exact h2 (.ref p) ⟨w2.lam, w2.G, upd w2.H p (.lst (vs ++ us))⟩ ((Ext.refl w2).poke hp) (d2.cell hp) ⟨p, _, rfl, h0, upd_same, d2.sub.free hp, d2.nolam hp, g2.app g4⟩
    · simp only [if_neg hl] at h2; exact h2.elim⟩
end
end Q
set_option Elab.async false
set_option linter.all false
set_option maxRecDepth 100000
set_option maxHeartbeats 4000000
namespace Q
open PySem PySem.Spec PyProof.Rows L2
structure DefOk (T : Tb) (mg : Str → Option Value) (x : Str) (st : Stmt) (idx : Nat) (ps : List Str) : Prop where
  ex : ∃ qual a fd, L2.Fun T.K x qual st a fd ∧ Binds T.K fd ps [] ∧ T.fa idx = some a ∧ mg x = some (.ref a)
theorem fnD_by {T : Tb} {mg : Str → Option Value} {base : Heap} {x : Str} {st : Stmt} {N ps : List Str} {k n idx : Nat} {F : SF} (d : DefOk T mg x st idx ps) (S : FnScope N ps (defScope st)) (hn : N.length = n)
    (body : ∀ (qual : Str) (a : Addr) (cdv : Value) (A : Around) (outer : List Env) (s : Shared) (H : Hp) (E : XK) (e : Wo),
      Room k (dX T mg base N qual (defScope st) a cdv A outer s H E).A → (dX T mg base N qual (defScope st) a cdv A outer s H E).A.units + 65 < cLine →
      L2N.Takes (dX T mg base N qual (defScope st) a cdv A outer s H E) (dW E) →
      PassesOwn (model T.P T.w) (dX T mg base N qual (defScope st) a cdv A outer s H E).A (dX T mg base N qual (defScope st) a cdv A outer s H E).env (dX T mg base N qual (defScope st) a cdv A outer s H E).xe →
      N.Nodup → PSs (dX T mg base N qual (defScope st) a cdv A outer s H E) (defBody st) (tS T e (dW E) F)) :
    FnD T mg base (k + 1) idx x ps (runF n F) := by
  obtain ⟨qual, a, fd, Fn, hb, hf, hm⟩ := d.ex
  exact fnD_of Fn hb hf hm S hn fun cdv A outer s H E e hr => body qual a cdv A outer s H E e hr (Nat.lt_of_le_of_lt (by show (A.deeper (envOfC qual (defScope st) s.heap.objs.size a cdv)).units + 65 ≤ _; omega) hr.un) (L2N.takes_of rfl rfl rfl rfl) (L2.passes_of rfl) S.nd
/-- an exception class of the text -/
structure XcOk (T : Tb) (mg : Str → Option Value) (k : Nat) (x : Str) : Prop where
  ex : ∃ C bmB B newId initId, T.ca k = some C ∧ ExcBaseFacts B newId initId bmB ∧ PySem.W.excIn T.K C bmB newId = true ∧ mg x = some (.ref C) ∧ PySem.W.keepIn T.K (.ref C) = true ∧
    PySem.W.subIn T.K (.ref C) (.type "BaseException") = some true ∧ PySem.W.typeIn T.K (.ref C) = some (.type "type")
section
variable {X : Cx} {T : Tb} {W : WX} {e : Wo}
theorem srai {x m : Str} {k j : Nat} {p p2 pos pos' : Pos} (o : XcOk T X.mg k x) (tk : L2N.Takes X W) (l : Lk T X := by exact ⟨rfl, rfl, rfl⟩) (hc : X.calm = true := by rfl) (hg : Gl X x := by rfl) (hdb : (x == ("__debug__" : Str)) = false := by decide) :
    PS X (.Raise (some (.Call (.Name x p) [.Constant (.str m) j p2] [] pos)) none pos') (tS T e W (raiF k)) := by
  obtain ⟨C, bmB, B, newId, initId, hC, F, h1, h2, h3, h4, h5⟩ := o.ex
  obtain ⟨lK, lP, lw⟩ := l
  exact js_raise hC (fun tk => L2N.ps_raise hc tk (L2N.pmk_own F (by rw [lK]; exact h1) h2 (by rw [lK]; exact h3) (raises_own (by rw [lK]; exact h4) (by rw [lK]; exact h5)) hg hdb)) tk
/-- a call without arguments -/
theorem pe_call0S {CX : CXT} {k f : Nat} {a : Addr} {fd : FuncData} {x : Str} {ps : List Str} {sp : Sp} {E : L2.St → XK} {p pos : Pos} (F : FnOk X.prog X.w X.K X.mg X.base CX k a fd ps sp) (hr : Room k X.A) (hg : Gl X x) (hm : X.mg x = some (.ref a)) (hk : PySem.W.keepIn X.K (.ref a) = true) (hb : Binds X.K fd ps [])
    (hx : ∀ σ, PassesAt CX X σ (E σ)) (hdb : (x == ("__debug__" : Str)) = false := by decide) : PE X (.Call (.Name x p) [] [] pos) (fun σ H Q => sp [] H Q (E σ)) := by
  refine ⟨fun pins s σ H Q I h => ?_⟩
  refine wpAny_Call_Name_kw (ld_glob I hg hm ?_ hdb)
  exact PySem.W.callWith_K0 I.kIn hk (run_fnS (us := []) F hr hb (hx σ) I .nil h)
theorem xcall0 {k f : Nat} {x : Str} {g : List D → M D} {p pos : Pos} (tk : L2N.Takes X W) (hr : Room k X.A) (F : FnD T X.mg X.base k f x [] g) (l : Lk T X := by exact ⟨rfl, rfl, rfl⟩) (hg : Gl X x := by rfl) (hdb : (x == ("__debug__" : Str)) = false := by decide) :
    PE X (.Call (.Name x p) [] [] pos) (tM T W (callE g nilA)) := by
  obtain ⟨a, fd, ha', hm, hk, hb, _, F⟩ := F.ex
  obtain ⟨lK, lP, lw⟩ := l
  have F' : FnOk X.prog X.w X.K X.mg X.base (L2N.CX X.prog X.w) k a fd [] (spD T 0 g) := by rw [lK, lP, lw]; exact F
  refine PE.imp (pe_call0S (f := f) (E := fun σ c d H' => W c d σ H') F' hr hg hm (by rw [lK]; exact hk) (by rw [lK]; exact hb) (fun σ => L2N.passAt tk σ) hdb) fun σ H Q q => ?_
  obtain ⟨sd, S, w, e1, d1, s1, q⟩ := q
  exact ⟨[], S, w, rfl, e1, d1, .nil, q⟩
/-- a, b = x, y -/
def parF (i j : Nat) (ds : List D) : SF := fun sd S => match ds with
  | [a, b] => .nx ((sd.set i (.val a)).set j (.val b)) S
  | _ => .bad
theorem spar {i j : Nat} {x y : Str} {a b : Expr} {px py pt pos : Pos} {kt k2 pt2} {f : List SV → M (List D)} (hN : X.N.Nodup) (ha : PA X [a, b] (tML T W f)) (hc : X.calm = true := by rfl) (hi : X.N[i]? = some x := by rfl) (hj : X.N[j]? = some y := by rfl) (hij : i ≠ j := by decide)
    (hx : X.env.scope.names.lookup x = some .local := by rfl) (hy : X.env.scope.names.lookup y = some .local := by rfl)
    (hw : swappedStores [.Tuple [.Name x px, .Name y py] kt pt] (.Tuple [a, b] k2 pt2) X.env = pure (some [x, y]) := by rfl)
    (hs : swapsWithSole [.Tuple [.Name x px, .Name y py] kt pt] (.Tuple [a, b] k2 pt2) pos.line X.env = pure false := by rfl) :
    PS X (.Assign [.Tuple [.Name x px, .Name y py] kt pt] (.Tuple [a, b] k2 pt2) pos) (tS T e W (ofM f (parF i j))) := PS.imp (ps_par hc hN hi hj hij hx hy ha hw hs) fun Dn σ H q =>
  st_R (k := parF i j) q fun ds sd S1 vs w1 s r p => by
    match ds, vs, r with
    | [], _, _ => exact p.elim
    | [_], _, _ => exact p.elim
    | _ :: _ :: _ :: _, _, _ => exact p.elim
    | [d, d'], _, .cons r1 (.cons r2 .nil) => exact ⟨_, _, rfl, p _ w1 (.refl w1) ((s.setv i r1).setv j r2)⟩
end
end Q
set_option Elab.async false
set_option linter.all false
set_option maxRecDepth 100000
set_option maxHeartbeats 4000000
namespace Q
open PySem PySem.Spec PyProof.Rows L2
section
variable {X : Cx} {T : Tb} {W : WX} {e : Wo}
/-- a slot gets a new thing that it alone holds -/
theorem RS.setg {w : Wo} {sd : List SV} {σ : L2.St} (r : RS T w sd σ) (i : Nat) {sv : SV} {a : Addr} (ok : SVok T w sv (some (.ref a))) (n : NoC (sd.set i .un) (σ.set i none) a) : RS T w (sd.set i sv) (σ.set i (some (.ref a))) := by
  have apart : ∀ j sj, i ≠ j → sd[j]? = some sj → sj.isOwn = true → σ[j]? ≠ some (some (.ref a)) := fun j sj nj h o => by
    have q := n j sj (by rw [List.getElem?_set_ne nj]; exact h) o
    rw [List.getElem?_set_ne nj] at q
    exact q
  constructor
  · simp [r.len]
  · intro j sj ov g1 g2
    by_cases z : i = j
    · subst z
      rw [List.getElem?_set_self'] at g1 g2
      cases q : sd[i]? with
      | none => rw [q] at g1; cases g1
      | some y =>
        rw [q] at g1
        obtain ⟨o', ho', _⟩ := r.get q
        rw [ho'] at g2
        cases g1; cases g2
        exact ok
    · rw [List.getElem?_set_ne z] at g1 g2
      exact r.at_ j sj ov g1 g2
  · intro j k sj sk b hjk g1 g2 o1 o2 g3 g4
    by_cases z : i = j
    · subst z
      rw [List.getElem?_set_ne hjk] at g2 g4
      rw [List.getElem?_set_self'] at g3
      cases q : σ[i]? with
      | none => rw [q] at g3; cases g3
      | some y =>
        rw [q] at g3
        cases g3
        exact apart k sk hjk g2 o2 g4
    · rw [List.getElem?_set_ne z] at g1 g3
      by_cases z2 : i = k
      · subst z2
        rw [List.getElem?_set_self'] at g4
        cases q : σ[i]? with
        | none => rw [q] at g4; cases g4
        | some y =>
          rw [q] at g4
          cases g4
          exact apart j sj z g1 o1 g3
      · rw [List.getElem?_set_ne z2] at g2 g4
        exact r.ap j k sj sk b hjk g1 g2 o1 o2 g3 g4
theorem OwnN.setg {sd : List SV} {σ : L2.St} (h : OwnN e sd σ) (i : Nat) (sv : SV) {a : Addr} (ha : e.H a = none) : OwnN e (sd.set i sv) (σ.set i (some (.ref a))) := fun j sj b h1 h2 h3 => by
  by_cases z : i = j
  · subst z
    rw [List.getElem?_set_self'] at h3
    cases q : σ[i]? with
    | none => rw [q] at h3; cases h3
    | some y => rw [q] at h3; cases h3; exact ha
  · rw [List.getElem?_set_ne z] at h1 h3
    exact h j sj b h1 h2 h3
/-- x = {} -/
def dicF (i : Nat) (b : Bool) : SF := fun sd S => .nx (sd.set i (.dic b [] [])) S
theorem sdic {i : Nat} {x : Str} {dpos pos pos' : Pos} (b : Bool) (hN : X.N.Nodup) (k : Lk T X := by exact ⟨rfl, rfl, rfl⟩) (hi : X.N[i]? = some x := by rfl) (hx : Loc X.env.scope x := by first | exact .inl rfl | exact .inr rfl) (hs : swapsWith (.Dict [] [] dpos) (some (.Name x pos')) pos.line X.env = pure false := by rfl) (hf : X.fn x = true ∨ X.env.scope.names.lookup x = some .local := by first | exact .inl rfl | exact .inr rfl) :
    PS X (.Assign [.Name x pos'] (.Dict [] [] dpos) pos) (tS T e W (dicF i b)) := PS.imp (ps_set hN hi hx (xd_new b k) hs hf) fun Dn σ H ⟨sd, S, w, e1, s, q⟩ => by
  subst e1
  intro p o hp hat hnt
  have h0 : e.H p = none := Classical.byContradiction fun z => s.ext.there p z hp
  have gp : w.G p = none := s.wd.sub.free hp
  have lp : p ∉ w.lam := s.wd.nolam hp
  have at_ := (hat ⟨w.lam, w.G, upd w.H p o⟩).ex
  obtain ⟨kv, vv, g1, g2, g3⟩ := at_
  refine q (σ.set i (some (.ref p))) ⟨w.lam, w.G, upd w.H p o⟩ ⟨⟨[], by simp⟩, Same.refl _⟩ ⟨s.ext.poke h0, s.wd.cell hp, ?_, s.own.setg i _ h0⟩
  have nc := (s.rs.noC hp).un i
  exact ((s.rs.poke (o := o) (s.rs.noC hp)).setg i ⟨p, o, kv, vv, rfl, upd_same, g1, gp, lp, g2, g3⟩ nc)
/-- o[i] = v of such a dict, by values -/
def rSetDic (T : Tb) : TSet := fun o i v H Q => ∃ w S a u b ks vs kd dv, w.H = H ∧ Wd T w S ∧ o = .ref a ∧ w.H a = some u ∧ DicAt T w b ks vs a u ∧ keyOk b kd = true ∧ RepB T w kd i ∧ Rep T w.lam w.G dv v ∧ ks.length < sizeLine ∧
  ∀ u', DicAt T w b (dPut ks vs kd dv).1 (dPut ks vs kd dv).2 a u' → Q (upd w.H a u')
theorem set_dic (hu : X.A.units + 65 < cLine) (k : Lk T X) : PSet X (rSetDic T) := by
  intro pins s σ H o i v ov iv u Q I ro ri rv h
  obtain ⟨w, S, a, u0, b, ks, vs, kd, dv, rfl, wd, rfl, ho, g, hk, rk, rd, hl, q⟩ := h
  cases (show ov = Value.ref a from ro)
  exact dic_put k (by omega) wd I ho g hk rk ri rd rv hl fun o' s' I' g' => ⟨_, I', q o' g'⟩
def dputK (i : Nat) (b : Bool) (ks vs : List D) (d : D) (k : D) : SF := fun sd S => if keyOk b k = true ∧ ks.length < sizeLine then .nx (sd.set i (.dic b (dPut ks vs k d).1 (dPut ks vs k d).2)) S else .bad
def dputF (i : Nat) (f g : EF) : SF := ofM f fun d sd S => match sd[i]? with
  | some (.dic b ks vs) => ofM g (dputK i b ks vs d) sd S
  | _ => .bad
theorem Sit.pokeD {w : Wo} {sd : List SV} {S : List MO} {σ : L2.St} (s : Sit T e w sd S σ) {i : Nat} {b : Bool} {ks vs ks' vs' : List D} {a : Addr} {u u' : HO} (hi : sd[i]? = some (.dic b ks vs)) (ha : σ[i]? = some (some (.ref a))) (h1 : w.H a = some u) (g : DicAt T w b ks vs a u) (h2 : w.G a = none) (h3 : a ∉ w.lam) (g' : DicAt T w b ks' vs' a u') :
    Sit T e ⟨w.lam, w.G, upd w.H a u'⟩ (sd.set i (.dic b ks' vs')) S σ := by
  obtain ⟨kv, vv, h4, h5, h6⟩ := g.ex
  obtain ⟨kv', vv', h4', h5', h6'⟩ := g'.ex
  obtain ⟨c1, c2, c3, _⟩ := dicSh_code h4
  refine ⟨s.ext.poke (s.own i _ a hi rfl ha), s.wd.poke h1 h2 h3 c1 c2 c3, ?_, ?_⟩
  · have nc := NoC.other s.rs hi rfl ha
    have r1 : RS T ⟨w.lam, w.G, upd w.H a u'⟩ (sd.set i .un) (σ.set i none) := (s.rs.un i none).poke nc
    have r2 := r1.setg (sv := .dic b ks' vs') (a := a) i ⟨a, u', kv', vv', rfl, upd_same, h4', h2, h3, h5', h6'⟩ (nc.un i)
    rw [List.set_set, List.set_set, set_same ha] at r2
    exact r2
  · intro j sv c q1 q2 q3
    by_cases z : i = j
    · subst z
      exact s.own i _ c hi rfl q3
    · rw [List.getElem?_set_ne z] at q1
      exact s.own j sv c q1 q2 q3
theorem js_dput (hu : X.A.units + 65 < cLine) (kk : Lk T X) {i : Nat} {x : Str} {a b : Expr} {p1 p2 pos : Pos} {f g : List SV → M D} (hN : X.N[i]? = some x) (hv : Vis X.env.scope x) (hd : (x == ("__debug__" : Str)) = false) (hcd : (x == ("__classdict__" : Str)) = false) (ha : PE X a (tM T W f)) (hb : PE X b (tMB T W g))
    (mk : ∀ {to ti tv : TE}, PE X (.Name x p1) to → PE X b ti → PE X a tv → PS X (.Assign [.Subscript (.Name x p1) b p2] a pos) (tAsg tv (gSub to ti (rSetDic T)))) :
    PS X (.Assign [.Subscript (.Name x p1) b p2] a pos) (tS T e W (dputF i f g)) :=
  PS.imp (mk (pe_var hN hv hd hcd) hb ha) fun Dn σ H q => by
    unfold dputF at q
    refine st_R q fun d sd S1 v w1 s1 r1 p => ?_
    cases hi : sd[i]? with
    | none => simp only [hi] at p; exact p.elim
    | some sv =>
      cases sv <;> simp only [hi] at p <;> first | exact p.elim | skip
      rename_i kb ks vs
      obtain ⟨ov, ho, a0, u0, kv, vv, ea, _⟩ := s1.rs.get hi
      subst ea
      refine ⟨.ref a0, ho, ?_⟩
      refine st_at s1 p fun k S2 y w2 x2 s2 r2 p2 => ?_
      obtain ⟨ov, ho', b0, u, kv, vv, eb, g1, g2, g3, g4, g5, g6⟩ := s2.rs.get hi
      subst eb
      rw [ho] at ho'
      cases ho'
      unfold dputK at p2
      split at p2
      · rename_i hk
        refine ⟨w2, S2, a0, u, kb, ks, vs, k, d, rfl, s2.wd, rfl, g1, ⟨kv, vv, g2, g5, g6⟩, hk.1, r2, r1.ext x2, hk.2, fun u' g' => ?_⟩
        exact p2 σ _ (Le.poke w2 a0 _) (s2.pokeD hi ho g1 ⟨kv, vv, g2, g5, g6⟩ g3 g4 g')
      · exact p2.elim
theorem sdput (hu : X.A.units + 65 < cLine) (kk : Lk T X := by exact ⟨rfl, rfl, rfl⟩) {i : Nat} {x : Str} {a b : Expr} {p1 p2 pos : Pos} {f g : EF} (ha : PE X a (tM T W f)) (hb : PE X b (tMB T W g)) (mk : ∀ {to ti tv : TE}, PE X (.Name x p1) to → PE X b ti → PE X a tv → PS X (.Assign [.Subscript (.Name x p1) b p2] a pos) (tAsg tv (gSub to ti (rSetDic T)))) (hN : X.N[i]? = some x := by rfl) (hv : Vis X.env.scope x := by first | exact .inl rfl | exact .inr (.inl rfl) | exact .inr (.inr rfl)) (hd : (x == ("__debug__" : Str)) = false := by decide) (hcd : (x == ("__classdict__" : Str)) = false := by decide) : PS X (.Assign [.Subscript (.Name x p1) b p2] a pos) (tS T e W (dputF i f g)) := js_dput hu kk hN hv hd hcd ha hb mk
theorem dicRd_nolam {w : Wo} {S : List MO} {b : Bool} {ks vs : List D} {a : Addr} (d : Wd T w S) (h : DicRd T w b ks vs a) : a ∉ w.lam := fun z => by
  obtain ⟨u, kv, vv, h1, h2, h3, h4⟩ := h
  obtain ⟨n, hn, e⟩ := List.mem_iff_getElem.mp z
  have hs : n < S.length := by rw [← d.len]; exact hn
  have q := d.obj n a S[n] (by rw [List.getElem?_eq_getElem hn, e]) (List.getElem?_eq_getElem hs)
  have no : (∀ vs, w.H a ≠ some (.lst vs)) ∧ ∀ C dx fs, w.H a ≠ some (.ins C dx fs) := by
    rcases h1 with h1 | ⟨o, h1⟩ <;> rw [h1]
    · cases h2 <;> exact ⟨(fun _ z => by cases z), fun _ _ _ z => by cases z⟩
    · exact ⟨(fun _ z => by cases z), fun _ _ _ z => by cases z⟩
  cases hm : S[n] with
  | lst ds => rw [hm] at q; obtain ⟨vs, h1, _⟩ := q; exact no.1 _ h1
  | ins c fs => rw [hm] at q; obtain ⟨C, dx, fvs, _, h1, _⟩ := q; exact no.2 _ _ _ h1
def getK (b : Bool) (ks vs : List D) (g h : EF) : EF := fun sd => g sd >>= fun k => h sd >>= fun x => M.lift (if keyOk b k then some ((dLook ks vs k).getD x) else none)
def getE (f g h : EF) : EF := fun sd => f sd >>= fun d => match d with
  | .dct b ks vs => getK b ks vs g h sd
  | _ => M.bad
theorem DicRd.ext {w w' : Wo} {b : Bool} {ks vs : List D} {a : Addr} (x : Ext w w') (h : DicRd T w b ks vs a) (hl : a ∉ w.lam) : DicRd T w' b ks vs a := by
  obtain ⟨u, kv, vv, h1, h2, h3, h4⟩ := h
  have nt : ∀ ps, u ≠ .tbl ps := (dicSh_code h2).1
  refine ⟨u, kv, vv, ?_, h2, h3.ext x, h4.ext x⟩
  rcases h1 with h1 | ⟨o, h1⟩
  · exact .inl (x.fr _ _ h1 nt hl)
  · exact .inr ⟨o, x.fr _ _ h1 (fun _ z => by cases z) hl⟩
theorem xget (hu : X.A.units + 65 < cLine) (kk : Lk T X := by exact ⟨rfl, rfl, rfl⟩) {o a b : Expr} {apos cpos : Pos} {f g h : EF} (ho : PE X o (tMB T W f)) (ha : PE X a (tMB T W g)) (hb : PE X b (tM T W h)) (m : M2 X o "get" apos a b cpos := by exact ⟨rfl, rfl, rfl, rfl⟩) :
    PE X (.Call (.Attribute o "get" apos) [a, b] [] cpos) (tM T W (getE f g h)) := by
  refine ⟨fun pins s σ H Q I q0 => ?_⟩
  refine wpAny_Call_method m.base m.few m.line PySem.F.plainAttrs_dict PySem.F.slot_dict_get PySem.F.type_dict_get (thn (ho.run pins s σ H (fun x H1 => ∃ a w1 S1 b ks vs sd, x = .ref a ∧ w1.H = H1 ∧ Wd T w1 S1 ∧ RS T w1 sd σ ∧ DicRd T w1 b ks vs a ∧ PG T (fun c d H' => W c d σ H') (RepV T) Q w1 (getK b ks vs g h sd S1)) I ?_) fun u s1 ⟨x, H1, I1, rx, a, w1, S1, b, ks, vs, sd, ex, e1, d1, s1', g1, q1⟩ => ?_)
  · refine tR_bnd (f := f) (k := fun sd d => match d with | .dct b ks vs => getK b ks vs g h sd | _ => M.bad) q0 fun sd S1 d v w1 d1 s1 r1 p => ?_
    cases d <;> first | exact p.elim | skip
    obtain ⟨a, e, g1⟩ := dicRd_of d1 r1
    exact ⟨a, w1, S1, _, _, _, sd, e, rfl, d1, s1, g1, p⟩
  subst ex e1
  obtain rfl : u = Value.ref a := rx
  obtain ⟨t1, t2⟩ := dic_type kk d1 I1 g1
  refine ⟨t1, t2, ?_⟩
  rw [m.trees]
  refine Calls.callWith_builtin rfl (Calls.evalArgs_plain (Calls.spliced_cons (thn (ha.run pins s1 σ w1.H (fun y H2 => ∃ w2 S2 k, w2.H = H2 ∧ Ext w1 w2 ∧ Wd T w2 S2 ∧ RS T w2 sd σ ∧ RepB T w2 k y ∧ PG T (fun c d H' => W c d σ H') (RepV T) Q w2 ((h sd >>= fun x => M.lift (if keyOk b k then some ((dLook ks vs k).getD x) else none)) S2)) I1 ?_) fun iv s2 ⟨y, H2, I2, ry, w2, S2, k, e2, x2, d2, s2', rk, q2⟩ => ?_)))
  · exact ⟨sd, S1, w1, rfl, d1, s1', PG.bnd q1 fun k S2 y w2 x2 d2 rk p => ⟨w2, S2, k, rfl, x2, d2, s1'.ext x2, rk, p⟩⟩
  subst e2
  refine Calls.spliced_cons (thn (hb.run pins s2 σ w2.H (fun z H3 => ∃ w3 S3 x, w3.H = H3 ∧ Ext w2 w3 ∧ Wd T w3 S3 ∧ Rep T w3.lam w3.G x z ∧ PG T (fun c d H' => W c d σ H') (RepV T) Q w3 (M.lift (if keyOk b k then some ((dLook ks vs k).getD x) else none) S3)) I2 ?_) fun fv s3 ⟨z, H3, I3, rz, w3, S3, x, e3, x3, d3, rx, q3⟩ => Calls.spliced_nil ?_)
  · exact ⟨sd, S2, w2, rfl, d2, s2', PG.bnd q2 fun x S3 z w3 x3 d3 rx p => ⟨w3, S3, x, rfl, x3, d3, rx, p⟩⟩
  subst e3
  obtain ⟨v, hv, q⟩ := PG.fin q3 d3
  by_cases hk : keyOk b k = true
  · rw [if_pos hk] at hv
    cases hv
    exact dic_getOr kk (by omega) d3 I3 ((g1.ext x2 (dicRd_nolam d1 g1)).ext x3 (dicRd_nolam d2 (g1.ext x2 (dicRd_nolam d1 g1)))) hk (rk.ext x3) ry rx rz fun v r s' I' hr rv => ⟨v, _, I', rv, q v w3 (.refl d3) hr⟩
  · rw [if_neg hk] at hv
    cases hv
def valsD : D → Option (List D)
  | .dct _ _ vs => some vs
  | _ => none
def valsI (f : EF) : List SV → M (List D) := fun sd => f sd >>= fun d => M.lift (valsD d)
theorem walk_dv {w : Wo} {a : Addr} {o : Obj} {u : HO} {vv : List V} {vs : List D} (h : w.G a = some (.frz o u)) (r : RepA T w.lam w.G vs vv) : WalkD T w vs (It1 a o u vv) := walk_dk h r
theorem ji_vals (k : Lk T X) {tg e : Expr} {apos cpos : Pos} {f : List SV → M D} (he : PE X e (tM T W f)) (hbase : attributeBase e "values" X.env (eval e X.env) = eval e X.env) (hline : (apos.endLine == cpos.line) = true) : PI X tg (.Call (.Attribute e "values" apos) [] [] cpos) (tMI T W (valsI f)) := by
  refine PI.imp (pi_dvals k he hbase hline) fun σ H Q h => ?_
  obtain ⟨sd, S, w, e1, d1, s1, q⟩ := h
  have q' : PG T (fun c d H' => W c d σ H') (WalkD T) Q w ((f sd >>= fun d => M.lift (valsD d)) S) := q
  cases hf : f sd S with
  | bad => rw [bind_ap, hf] at q'; exact q'.elim
  | exc x S1 => rw [bind_ap, hf] at q'; exact ⟨sd, S, w, e1, d1, s1, by rw [hf]; exact q'⟩
  | ok d S1 =>
    rw [bind_ap, hf] at q'
    cases d <;> first | exact q'.elim | skip
    refine ⟨sd, S, w, e1, d1, s1, ?_⟩
    rw [hf]
    intro v w1 x1 d2 r
    cases r with
    | dct h1 g r1 r2 => exact ⟨w1, _, _, _, _, _, _, _, rfl, rfl, d2.sub _ _ h1, g, q' _ w1 x1 d2 (walk_dv h1 r2)⟩
end
end Q
set_option Elab.async false
set_option linter.all false
set_option maxRecDepth 100000
set_option maxHeartbeats 4000000
namespace Q
open PySem PySem.Spec PyProof.Rows L2
section
variable {prog : Program} {w : World} {A : Around} {E : Value → Shared → Prop} {s : Shared}
theorem collect_tup {l : Addr} {vs : List Value} {Q : List Value → Shared → Prop} (hl : s.heap.IsTuple l vs.toArray)
    (h : Q vs { s with heap := (s.heap.push (seqObj "list" #[] 0)).update s.heap.objs.size (Obj.mapSeq (· ++ vs.toArray)) }) (hsz : vs.length ≤ sizeLine) :
    wpAny (model prog w) A (collect (.ref l)) Q E s := by
  obtain ⟨o, ho, hc, n, hd⟩ := id hl
  unfold collect
  refine wpAny_bind (wpAny_runValue (codeAny_builtin entry_proto_collect' ?_))
  show wpAny _ _ (do again (.builtin "list.__iadd__" ⟨[← newList [], .ref l], []⟩)) _ _ s
  refine wpAny_bind (wpAny_newList (wpAny_pure ⟨Code.quiet_builtin _ (by decide +kernel), codeAny_builtin entry_list_iadd' ?_⟩))
  show wpAny _ _ (Builtin.List.listExtendWith (.ref s.heap.objs.size) (.ref l) (.ref s.heap.objs.size)) _ _ { s with heap := s.heap.push (seqObj "list" #[] 0) }
  unfold Builtin.List.listExtendWith
  have ho' : (s.heap.push (seqObj "list" #[] 0)).get? l = some o := Heap.get?_push_of_some _ ho
  refine wpAny_bind (wpAny_typeOf (T := "tuple") ⟨o, ho', hc⟩ ?_)
  have ht : (Value.type "tuple" == Value.type "tuple") = true := by rfl
  rw [if_pos (by rw [ht]; simp)]
  refine wpAny_bind (listItems_at ho' hd ?_)
  refine wpAny_bind (listItems_at (xs := #[]) (n := 0) (Heap.get?_push_size _ rfl) rfl ?_)
  rw [if_neg (by simp)]
  refine wpAny_bind (listUpdate_at (xs := #[]) (n := 0) (Heap.get?_push_size _ rfl) rfl ?_ (Nat.zero_le _) (by show (#[] ++ vs.toArray).size ≤ sizeLine + 1; simp only [Array.size_append, List.size_toArray, List.length_nil]; omega))
  refine wpAny_pure ?_
  show wpAny (model prog w) A (do
      let o ← load s.heap.objs.size
      match o.data with
      | .seq xs _ => pure xs.toList
      | _ => unsupported "internal:collect") Q E { s with heap := (s.heap.push (seqObj "list" #[] 0)).update s.heap.objs.size (Obj.mapSeq (· ++ vs.toArray)) }
  refine wpAny_bind (wpAny_load (get?_update_seq (Heap.get?_push_size _ rfl) _) ?_)
  show wpAny _ _ (pure ((#[] : Array Value) ++ vs.toArray).toList) Q E _
  rw [show ((#[] : Array Value) ++ vs.toArray).toList = vs by simp]
  exact wpAny_pure h
theorem sorted_of_sortT {l : Addr} {vs : List Value} {Q : Value → Shared → Prop} (hl : s.heap.IsTuple l vs.toArray) (hL : vs.length ≤ sizeLine)
    (body : ∀ E' : Value → Shared → Prop, wpAny (model prog w) A.in1.in1 (Builtin.«list.sort» ⟨[.ref (s.heap.objs.size + 1)], []⟩) (fun f s' => f = .done (.ret .none) ∧ Q (.ref (s.heap.objs.size + 1)) s') E' { s with heap := PySem.W.copyHeap s.heap vs }) :
    wpAny (model prog w) A (call (.builtin "sorted") [.ref l]) Q E s := by
  refine Calls.call_function_entry kind_sorted plain_sorted entry_sorted (args_sorted1 _) ?_
  unfold Builtin.«sorted»
  refine wpAny_bind (m := checkCount "sorted" 1 1 _) (wpAny_pure ?_)
  refine wpAny_bind (collect_tup hl ?_ hL)
  refine wpAny_bind (wpAny_newList ?_ hL)
  have hsz : ((s.heap.push (seqObj "list" #[] 0)).update s.heap.objs.size (Obj.mapSeq (· ++ vs.toArray))).objs.size = s.heap.objs.size + 1 := by
    rw [Heap.size_update, size_push']
  show wpAny _ _ _ _ _ { s with heap := PySem.W.copyHeap s.heap vs }
  rw [hsz]
  refine wpAny_bind (wpAny_holding (wpAny_call_entry slot_list_sort ⟨_, PySem.W.copyHeap_at s.heap vs, rfl⟩ entry_list_sort ?body (args_list_sort _)))
  case body =>
    show wpAny (model prog w) A.in1.in1 (Builtin.«list.sort» ⟨[.ref (s.heap.objs.size + 1)], []⟩) _ _ _
    refine wpAny_mono (body _) (fun f s' hf => ?_) fun _ _ e => e
    obtain ⟨rfl, hq⟩ := hf
    exact ⟨_, rfl, wpAny_pure ⟨_, rfl, hq⟩⟩
theorem sorted_dataT {β : Type} {R : Value → β → Prop} {enc : β → PyData} {vs : List Value} {bs : List β} {l : Addr} {Q : Value → Shared → Prop} (hl : s.heap.IsTuple l vs.toArray) (e : PySem.W.EachIs R vs bs) (er : PySem.W.EachIs (fun v b => ∃ as, PySem.Reads s.heap v (enc b) as) vs bs) (hal : PySem.W.AllAlike (bs.map enc)) (hk : PySem.W.Sortable (bs.map enc)) (hL : bs.length ≤ sizeLine)
    (hu : ∀ b, b ∈ bs → A.units + 2 + (enc b).depth < cLine) (h : ∀ out, out.length = bs.length → PySem.W.EachIs R out (bs.mergeSort (PySem.W.dataLe false enc)) → Q (.ref (s.heap.objs.size + 1)) { s with heap := sortedAll s.heap vs (List.toArray out) }) :
    wpAny (model prog w) A (call (.builtin "sorted") [.ref l]) Q E s := by
  have er' : PySem.W.EachIs (fun v b => ∃ as, PySem.Reads (PySem.W.sortingHeap (PySem.W.copyHeap s.heap vs) (s.heap.objs.size + 1) vs) v (enc b) as) vs bs := er.mono fun _ _ ⟨as, r⟩ => ⟨as, PyProof.Rows.Reads.keeps (fun _ _ => PySem.W.sorting_copy_old) r⟩
  have hL' : vs.length ≤ sizeLine := by rw [e.length]; exact hL
  exact sorted_of_sortT hl hL' fun _ => PySem.W.list_sort_vals (s := { s with heap := PySem.W.copyHeap s.heap vs }) (PySem.W.copyHeap_at s.heap vs)
    (PySem.W.SortsAt.data (s := { s with heap := PySem.W.sortingHeap (PySem.W.copyHeap s.heap vs) (s.heap.objs.size + 1) vs }) (PySem.W.each_map (R := fun v d => ∃ as, PySem.Reads (PySem.W.sortingHeap (PySem.W.copyHeap s.heap vs) (s.heap.objs.size + 1) vs) v d as) enc er') hal hk (PySem.W.bound_map hu)) hL'
    ⟨rfl, h _ (by rw [PySem.W.sortVals_length false rfl]; exact e.length) (PySem.W.sortVals_data false e er' hal)⟩
end
def isTc : D → Bool
  | .tup (_ :: _) => true
  | _ => false
def notNT : D → Bool
  | .non => false
  | .tup _ => false
  | .dct _ _ _ => false
  | .fn _ => false
  | .loc _ => false
  | _ => true
def sortOk (ds : List D) : Bool := ds.all ok60 && (ds.all fun d => ds.all fun e => PySem.W.alike d.py e.py) && (ds.all isTc || ds.all notNT) && decide (ds.length ≤ sizeLine)
def sortL (ds : List D) : List D := ds.mergeSort (PySem.W.dataLe false D.py)
def sortedD : List D → Option D
  | [.lst ds] => if sortOk ds then some (.lst (sortL ds)) else none
  | [.tup ds] => if sortOk ds then some (.lst (sortL ds)) else none
  | _ => none
theorem sortOk_to {ds : List D} (h : sortOk ds = true) : (∀ d ∈ ds, ok60 d = true) ∧ PySem.W.AllAlike (ds.map D.py) ∧ PySem.W.Sortable (ds.map D.py) ∧ ds.length ≤ sizeLine := by
  unfold sortOk at h
  simp only [Bool.and_eq_true, decide_eq_true_eq, List.all_eq_true, Bool.or_eq_true] at h
  obtain ⟨⟨⟨h1, h2⟩, h3⟩, h4⟩ := h
  refine ⟨h1, fun d hd d' hd' => ?_, ?_, h4⟩
  · obtain ⟨x, hx, rfl⟩ := List.mem_map.mp hd
    obtain ⟨y, hy, rfl⟩ := List.mem_map.mp hd'
    exact h2 x hx y hy
  · rcases h3 with h3 | h3
    · refine .inl fun d hd => ?_
      obtain ⟨x, hx, rfl⟩ := List.mem_map.mp hd
      have q := h3 x hx
      match x, q with
      | .tup (y :: ys), _ => exact ⟨y.py, pyA ys, by simp [D.py, pyA]⟩
    · refine .inr fun d hd => ?_
      obtain ⟨x, hx, rfl⟩ := List.mem_map.mp hd
      have q := h3 x hx
      cases x <;> simp [notNT] at q <;> simp [D.py]
section
variable {X : Cx} {T : Tb}
open PySem.W (EachIs)
theorem each_of {w : Wo} : ∀ {ds : List D} {vs : List V} {us : List Value}, RepA T w.lam w.G ds vs → Vals vs us → EachIs (fun u d => ∃ v, RelV v u ∧ Rep T w.lam w.G d v) us ds
  | _, _, _, .nil, .nil => .nil
  | _, _, _, .cons h r, .cons g s => .cons ⟨_, g, h⟩ (each_of r s)
theorem each_to {w : Wo} : ∀ {us : List Value} {ds : List D}, EachIs (fun u d => ∃ v, RelV v u ∧ Rep T w.lam w.G d v) us ds → ∃ vs, RepA T w.lam w.G ds vs ∧ Vals vs us
  | _, _, .nil => ⟨[], .nil, .nil⟩
  | _, _, .cons ⟨v, h, g⟩ r => by
    obtain ⟨vs, a, b⟩ := each_to r
    exact ⟨v :: vs, .cons g a, .cons h b⟩
theorem each_reads {pins : List (Addr × Obj)} {σ : L2.St} {s : Shared} {w : Wo} {S : List MO} (k : Lk T X) (I : Inv X pins σ w.H s) (wd : Wd T w S) : ∀ {ds : List D} {vs : List V} {us : List Value}, (∀ d ∈ ds, ok60 d = true) → RepA T w.lam w.G ds vs → Vals vs us → EachIs (fun u d => ∃ as, PySem.Reads s.heap u d.py as) us ds
  | _, _, _, _, .nil, .nil => .nil
  | _, _, _, ho, .cons h r, .cons g s => .cons (Dp.reads I _ _ _ (rep_dp k.K wd.sub (ho _ (List.mem_cons_self ..)) h) g) (each_reads k I wd (fun d hd => ho d (List.mem_cons_of_mem _ hd)) r s)
theorem ok60_depth {d : D} (h : ok60 d = true) : d.py.depth ≤ 60 := (okD_lay d 60 h).2
theorem sorted_D (k : Lk T X) (hu : X.A.units + 65 < cLine) : CallR X (.builtin "sorted") (rC T sortedD) := by
  intro pins s σ H xs us Q I r h
  obtain ⟨w, S, ds, d, rfl, wd, hx, hd, q⟩ := h
  have fin : ∀ {ds : List D} {vs : List V} {its out : List Value}, sortOk ds = true → RepA T w.lam w.G ds vs → out.length = ds.length → EachIs (fun u d => ∃ v, RelV v u ∧ Rep T w.lam w.G d v) out (sortL ds) → (∀ v w', Alc w w' → Rep T w'.lam w'.G (.lst (sortL ds)) v → Q v w'.H) →
      EP X pins σ Q (.ref (s.heap.objs.size + 1)) { s with heap := sortedAll s.heap its (List.toArray out) } := by
    intro ds vs its out ho hr hl he q
    obtain ⟨vs', r1, r2⟩ := each_to he
    obtain ⟨_, _, _, hz⟩ := sortOk_to ho
    obtain ⟨ep, he'⟩ := PyProof.Rows.sortedAll_at s.heap its out.toArray
    have hp := I.hok.fresh (Nat.le_succ s.heap.objs.size)
    have hlen : vs'.length ≤ sizeLine := by rw [r2.length, hl]; exact hz
    obtain ⟨al, rr⟩ := new_lst wd hp r1
    exact ⟨.ref _, upd w.H (s.heap.objs.size + 1) (.lst vs'), I.laid (t' := s.toks) (fun _ _ => PyProof.Rows.sortedAll_old) (Nat.le_succ _) ⟨hlen, out, ep, r2, he'⟩, rfl, q _ _ al rr⟩
  match ds, hd, hx with
  | [.lst ds], hd, hx =>
    obtain ⟨x, rfl, hz⟩ := pr1 hx
    simp only [sortedD, Option.ite_none_right_eq_some, Option.some.injEq] at hd
    obtain ⟨ho, rfl⟩ := hd
    obtain ⟨a, vs, e1, h1, r1⟩ := hz.lst_ wd
    subst e1
    obtain ⟨its, rv, hl, hzl⟩ := I.list (.inl h1)
    rw [Vals.ref1 r]
    obtain ⟨o1, o2, o3, o4⟩ := sortOk_to ho
    exact PySem.W.sorted_data (enc := D.py) hl.isList (each_of r1 rv) (each_reads k I wd o1 r1 rv) o2 o3 o4 (fun d hd => by have := ok60_depth (o1 d hd); omega) fun out e1 e2 => fin ho r1 e1 e2 q
  | [.tup ds], hd, hx =>
    obtain ⟨x, rfl, hz⟩ := pr1 hx
    simp only [sortedD, Option.ite_none_right_eq_some, Option.some.injEq] at hd
    obtain ⟨ho, rfl⟩ := hd
    obtain ⟨a, vs, e1, h1, r1⟩ := hz.tup_ wd
    subst e1
    obtain ⟨its, rv, hl, hzl⟩ := I.tuple (by rw [k.K]; exact h1)
    rw [Vals.ref1 r]
    obtain ⟨o1, o2, o3, o4⟩ := sortOk_to ho
    exact sorted_dataT (enc := D.py) hl (each_of r1 rv) (each_reads k I wd o1 r1 rv) o2 o3 o4 (fun d hd => by have := ok60_depth (o1 d hd); omega) fun out e1 e2 => fin ho r1 e1 e2 q
theorem xsorted {W : WX} {a : Expr} {p pos : Pos} {h : AF} (hu : X.A.units + 65 < cLine) (hm : X.mg "sorted" = none) (ha : PA X [a] (tMBL T W h)) (k : Lk T X := by exact ⟨rfl, rfl, rfl⟩) (hg : Gl X "sorted" := by rfl) (he : starEach [a] X.env = (false, eval a X.env) :: starEach [] X.env := by rfl) (hpl : (backTo pos (starEach [] X.env)).any (·.1) = false := by rfl) : PE X (.Call (.Name "sorted" p) [a] [] pos) (tM T W (biE sortedD h)) := xbi (sorted_D k hu) hm ha hg (by decide +kernel) (by decide) (by decide) he hpl
end
end Q
set_option Elab.async false
set_option linter.all false
set_option maxRecDepth 100000
set_option maxHeartbeats 4000000
namespace Q
open PySem PySem.Spec PyProof.Rows L2
def minL (x : D) (xs : List D) : D := xs.foldl (fun a y => if PySem.W.dataLt y.py a.py then y else a) x
def maxL (x : D) (xs : List D) : D := xs.foldl (fun a y => if PySem.W.dataLt a.py y.py then y else a) x
def isNonPy (d : D) : Bool := match d.py with | .none => true | _ => false
def mmOk (ds : List D) : Bool := ds.all ok60 && (ds.all fun d => ds.all fun e => PySem.W.alike d.py e.py) && ds.all fun d => !isNonPy d
def min1D : List D → Option D
  | [.lst (d :: ds)] => if mmOk (d :: ds) then some (minL d ds) else none
  | [.tup (d :: ds)] => if mmOk (d :: ds) then some (minL d ds) else none
  | _ => none
def max1D : List D → Option D
  | [.lst (d :: ds)] => if mmOk (d :: ds) then some (maxL d ds) else none
  | [.tup (d :: ds)] => if mmOk (d :: ds) then some (maxL d ds) else none
  | _ => none
theorem mmOk_to {ds : List D} (h : mmOk ds = true) : (∀ d ∈ ds, ok60 d = true) ∧ PySem.W.AlikeAll (ds.map D.py) := by
  unfold mmOk at h
  simp only [Bool.and_eq_true, List.all_eq_true] at h
  obtain ⟨⟨h1, h2⟩, h3⟩ := h
  refine ⟨h1, fun d hd d' hd' => ?_, fun d hd e => ?_⟩
  · obtain ⟨x, hx, rfl⟩ := List.mem_map.mp hd
    obtain ⟨y, hy, rfl⟩ := List.mem_map.mp hd'
    exact h2 x hx y hy
  · obtain ⟨x, hx, rfl⟩ := List.mem_map.mp hd
    have q := h3 x hx
    simp [isNonPy, e] at q
theorem depthAll_le : ∀ {ds : List D}, (∀ d ∈ ds, ok60 d = true) → PyData.depthAll (ds.map D.py) ≤ 60
  | [], _ => by simp [PyData.depthAll]
  | d :: ds, h => by
    have h1 := ok60_depth (h d (List.mem_cons_self ..))
    have h2 := depthAll_le (ds := ds) fun x hx => h x (List.mem_cons_of_mem _ hx)
    simp only [List.map_cons, PyData.depthAll]
    omega
theorem getD_py (ds : List D) (i : Nat) : (ds.map D.py).getD i .none = (ds.getD i .non).py := by
  rw [List.getD_eq_getElem?_getD, List.getD_eq_getElem?_getD, List.getElem?_map]
  cases ds[i]? <;> rfl
def valsLD : D → Option D
  | .dct _ _ vs => if vs.length ≤ sizeLine then some (.lst vs) else none
  | _ => none
def lvE (f : EF) : EF := fun sd => f sd >>= fun d => M.lift (valsLD d)
theorem vals_get : ∀ {xs : List V} {us : List Value}, xs.length = us.length → (∀ (i : Nat) (z : V) (u : Value), xs[i]? = some z → us[i]? = some u → RelV z u) → Vals xs us
  | [], [], _, _ => .nil
  | [], _ :: _, h, _ => by simp at h
  | _ :: _, [], h, _ => by simp at h
  | x :: xs, u :: us, h, q => .cons (q 0 x u rfl rfl) (vals_get (by simpa using h) fun i z y e1 e2 => q (i + 1) z y (by simpa using e1) (by simpa using e2))
section
variable {X : Cx} {T : Tb}
open PySem.W (EachIs)
theorem best_at {w : Wo} {ds : List D} {vs : List V} {us : List Value} {i : Nat} {v : Value} (r : RepA T w.lam w.G ds vs) (g : Vals vs us) (h : us[i]? = some v) : ∃ y, RelV y v ∧ Rep T w.lam w.G (ds.getD i .non) y := by
  have hi : i < us.length := (List.getElem?_eq_some_iff.mp h).1
  have hv : i < vs.length := by rw [g.length]; exact hi
  obtain ⟨d, h1, h2⟩ := r.get (List.getElem?_eq_getElem hv)
  obtain ⟨u, h3, h4⟩ := g.get (List.getElem?_eq_getElem hv)
  rw [h] at h3
  cases h3
  refine ⟨_, h4, ?_⟩
  rw [List.getD_eq_getElem?_getD, h1]
  exact h2
theorem min1_D (k : Lk T X) (hc : X.calm = true) (hu : X.A.units + 65 < cLine) : CallR X (.builtin "min") (rC T min1D) := by
  intro pins s σ H xs us Q I r h
  obtain ⟨w, S, ds, d, rfl, wd, hx, hd, q⟩ := h
  have e2 : ∀ (d : D) (ds : List D), (d :: ds).getD (argBest (fun i j => PySem.W.dataLt (((d :: ds).map D.py).getD i .none) (((d :: ds).map D.py).getD j .none)) ds.length) .non = minL d ds := fun d ds => by
    have z := (PySem.W.argBest_fold (fun a b : D => PySem.W.dataLt a.py b.py) .non d ds ds.length (Nat.le_refl _)).2
    rw [List.take_length] at z
    rw [show (fun i j => PySem.W.dataLt (((d :: ds).map D.py).getD i .none) (((d :: ds).map D.py).getD j .none)) = fun i j => PySem.W.dataLt ((d :: ds).getD i .non).py ((d :: ds).getD j .non).py from by funext i j; rw [getD_py, getD_py]]
    exact z
  match ds, hd, hx with
  | [.lst (d :: ds)], hd, hx =>
    obtain ⟨x, rfl, hz⟩ := pr1 hx
    simp only [min1D, Option.ite_none_right_eq_some, Option.some.injEq] at hd
    obtain ⟨ho, rfl⟩ := hd
    obtain ⟨a, vs, e1, h1, r1⟩ := hz.lst_ wd
    subst e1
    obtain ⟨its, rv, hl, hzl⟩ := I.list (.inl h1)
    rw [Vals.ref1 r]
    obtain ⟨o1, o2⟩ := mmOk_to ho
    obtain ⟨as, hr⟩ := PySem.W.each_readsAll D.py (each_reads k I wd o1 r1 rv)
    have hr' : ReadsAll s.heap its.toArray.toList ((d :: ds).map D.py) as := hr
    have hn : its.toArray.size = ds.length + 1 := by have := PySem.W.readsAll_len hr'; simpa using this
    have dp := depthAll_le o1
    refine PySem.call_min_walkH (PySem.W.iter_listW (A := X.A.in1) (I.ok.hd hc) hl.isList fun s₂ e W st hfp hw hk => ?_)
    refine ⟨_, _, _, _, _, _, _, s.heap, _, rfl, W, st, hfp, by omega, hw, hk, PySem.W.cmpIn_lt (A := X.A.in1) hr' o2 (by show X.A.units + 1 + _ < _; omega), fun v s' hP m => ?_⟩
    obtain ⟨h', tk, rfl, hk'⟩ := PySem.W.moved_old e rfl m
    have e1 : its.toArray.size - 1 = ds.length := by omega
    rw [e1] at hP
    obtain ⟨y, ry, rr⟩ := best_at r1 rv (List.getElem?_toArray ▸ hP)
    rw [e2] at rr
    exact ⟨y, w.H, I.kept hk', ry, q y w (.refl wd) rr⟩
  | [.tup (d :: ds)], hd, hx =>
    obtain ⟨x, rfl, hz⟩ := pr1 hx
    simp only [min1D, Option.ite_none_right_eq_some, Option.some.injEq] at hd
    obtain ⟨ho, rfl⟩ := hd
    obtain ⟨a, vs, e1, h1, r1⟩ := hz.tup_ wd
    subst e1
    obtain ⟨its, rv, hl, hzl⟩ := I.tuple (by rw [k.K]; exact h1)
    rw [Vals.ref1 r]
    obtain ⟨o1, o2⟩ := mmOk_to ho
    obtain ⟨as, hr⟩ := PySem.W.each_readsAll D.py (each_reads k I wd o1 r1 rv)
    have hr' : ReadsAll s.heap its.toArray.toList ((d :: ds).map D.py) as := hr
    have hn : its.toArray.size = ds.length + 1 := by have := PySem.W.readsAll_len hr'; simpa using this
    have dp := depthAll_le o1
    refine PySem.call_min_walkH (PySem.W.iter_tupleW (A := X.A.in1) (I.ok.hd hc) hl fun s₂ e W st hfp hw hk => ?_)
    refine ⟨_, _, _, _, _, _, _, s.heap, _, rfl, W, st, hfp, by omega, hw, hk, PySem.W.cmpIn_lt (A := X.A.in1) hr' o2 (by show X.A.units + 1 + _ < _; omega), fun v s' hP m => ?_⟩
    obtain ⟨h', tk, rfl, hk'⟩ := PySem.W.moved_old e rfl m
    have e1 : its.toArray.size - 1 = ds.length := by omega
    rw [e1] at hP
    obtain ⟨y, ry, rr⟩ := best_at r1 rv (List.getElem?_toArray ▸ hP)
    rw [e2] at rr
    exact ⟨y, w.H, I.kept hk', ry, q y w (.refl wd) rr⟩
theorem max1_D (k : Lk T X) (hc : X.calm = true) (hu : X.A.units + 65 < cLine) : CallR X (.builtin "max") (rC T max1D) := by
  intro pins s σ H xs us Q I r h
  obtain ⟨w, S, ds, d, rfl, wd, hx, hd, q⟩ := h
  have e2 : ∀ (d : D) (ds : List D), (d :: ds).getD (argBest (fun i j => PySem.W.dataLt (((d :: ds).map D.py).getD j .none) (((d :: ds).map D.py).getD i .none)) ds.length) .non = maxL d ds := fun d ds => by
    have z := (PySem.W.argBest_fold (fun a b : D => PySem.W.dataLt b.py a.py) .non d ds ds.length (Nat.le_refl _)).2
    rw [List.take_length] at z
    rw [show (fun i j => PySem.W.dataLt (((d :: ds).map D.py).getD j .none) (((d :: ds).map D.py).getD i .none)) = fun i j => PySem.W.dataLt ((d :: ds).getD j .non).py ((d :: ds).getD i .non).py from by funext i j; rw [getD_py, getD_py]]
    exact z
  match ds, hd, hx with
  | [.lst (d :: ds)], hd, hx =>
    obtain ⟨x, rfl, hz⟩ := pr1 hx
    simp only [max1D, Option.ite_none_right_eq_some, Option.some.injEq] at hd
    obtain ⟨ho, rfl⟩ := hd
    obtain ⟨a, vs, e1, h1, r1⟩ := hz.lst_ wd
    subst e1
    obtain ⟨its, rv, hl, hzl⟩ := I.list (.inl h1)
    rw [Vals.ref1 r]
    obtain ⟨o1, o2⟩ := mmOk_to ho
    obtain ⟨as, hr⟩ := PySem.W.each_readsAll D.py (each_reads k I wd o1 r1 rv)
    have hr' : ReadsAll s.heap its.toArray.toList ((d :: ds).map D.py) as := hr
    have hn : its.toArray.size = ds.length + 1 := by have := PySem.W.readsAll_len hr'; simpa using this
    have dp := depthAll_le o1
    refine PySem.call_max_walkH (PySem.W.iter_listW (A := X.A.in1) (I.ok.hd hc) hl.isList fun s₂ e W st hfp hw hk => ?_)
    refine ⟨_, _, _, _, _, _, _, s.heap, _, rfl, W, st, hfp, by omega, hw, hk, PySem.W.cmpIn_gt (A := X.A.in1) hr' o2 (by show X.A.units + 1 + _ < _; omega), fun v s' hP m => ?_⟩
    obtain ⟨h', tk, rfl, hk'⟩ := PySem.W.moved_old e rfl m
    have e1 : its.toArray.size - 1 = ds.length := by omega
    rw [e1] at hP
    obtain ⟨y, ry, rr⟩ := best_at r1 rv (List.getElem?_toArray ▸ hP)
    rw [e2] at rr
    exact ⟨y, w.H, I.kept hk', ry, q y w (.refl wd) rr⟩
  | [.tup (d :: ds)], hd, hx =>
    obtain ⟨x, rfl, hz⟩ := pr1 hx
    simp only [max1D, Option.ite_none_right_eq_some, Option.some.injEq] at hd
    obtain ⟨ho, rfl⟩ := hd
    obtain ⟨a, vs, e1, h1, r1⟩ := hz.tup_ wd
    subst e1
    obtain ⟨its, rv, hl, hzl⟩ := I.tuple (by rw [k.K]; exact h1)
    rw [Vals.ref1 r]
    obtain ⟨o1, o2⟩ := mmOk_to ho
    obtain ⟨as, hr⟩ := PySem.W.each_readsAll D.py (each_reads k I wd o1 r1 rv)
    have hr' : ReadsAll s.heap its.toArray.toList ((d :: ds).map D.py) as := hr
    have hn : its.toArray.size = ds.length + 1 := by have := PySem.W.readsAll_len hr'; simpa using this
    have dp := depthAll_le o1
    refine PySem.call_max_walkH (PySem.W.iter_tupleW (A := X.A.in1) (I.ok.hd hc) hl fun s₂ e W st hfp hw hk => ?_)
    refine ⟨_, _, _, _, _, _, _, s.heap, _, rfl, W, st, hfp, by omega, hw, hk, PySem.W.cmpIn_gt (A := X.A.in1) hr' o2 (by show X.A.units + 1 + _ < _; omega), fun v s' hP m => ?_⟩
    obtain ⟨h', tk, rfl, hk'⟩ := PySem.W.moved_old e rfl m
    have e1 : its.toArray.size - 1 = ds.length := by omega
    rw [e1] at hP
    obtain ⟨y, ry, rr⟩ := best_at r1 rv (List.getElem?_toArray ▸ hP)
    rw [e2] at rr
    exact ⟨y, w.H, I.kept hk', ry, q y w (.refl wd) rr⟩
theorem xmin1 {W : WX} {a : Expr} {p pos : Pos} {h : AF} (hu : X.A.units + 65 < cLine) (hm : X.mg "min" = none) (ha : PA X [a] (tMBL T W h)) (k : Lk T X := by exact ⟨rfl, rfl, rfl⟩) (hc : X.calm = true := by rfl) (hg : Gl X "min" := by rfl) (he : starEach [a] X.env = (false, eval a X.env) :: starEach [] X.env := by rfl) (hpl : (backTo pos (starEach [] X.env)).any (·.1) = false := by rfl) : PE X (.Call (.Name "min" p) [a] [] pos) (tM T W (biE min1D h)) := xbi (min1_D k hc hu) hm ha hg (by decide +kernel) (by decide) (by decide) he hpl
theorem xmax1 {W : WX} {a : Expr} {p pos : Pos} {h : AF} (hu : X.A.units + 65 < cLine) (hm : X.mg "max" = none) (ha : PA X [a] (tMBL T W h)) (k : Lk T X := by exact ⟨rfl, rfl, rfl⟩) (hc : X.calm = true := by rfl) (hg : Gl X "max" := by rfl) (he : starEach [a] X.env = (false, eval a X.env) :: starEach [] X.env := by rfl) (hpl : (backTo pos (starEach [] X.env)).any (·.1) = false := by rfl) : PE X (.Call (.Name "max" p) [a] [] pos) (tM T W (biE max1D h)) := xbi (max1_D k hc hu) hm ha hg (by decide +kernel) (by decide) (by decide) he hpl
theorem items_vals {P : Nat → Value → Prop} {acc : Array Value} {vv : List V} {n : Nat} (hn : n = vv.length) (h : ItemsOf P acc n) (hp : ∀ i u z, P i u → vv[i]? = some z → RelV z u) : Vals vv acc.toList := by
  obtain ⟨h1, h2⟩ := h
  subst hn
  refine vals_get (by simp [h1]) fun i z u e1 e2 => ?_
  have e2 : acc[i]? = some u := by rw [← Array.getElem?_toList]; exact e2
  exact hp i u z (h2 i u e2) e1
theorem xlistvals {W : WX} {o : Expr} {p p2 pos2 pos : Pos} {f : EF} (hm : X.mg "list" = none) (ho : PE X o (tM T W f)) (k : Lk T X := by exact ⟨rfl, rfl, rfl⟩) (hc : X.calm = true := by rfl) (hg : Gl X "list" := by rfl)
    (hs : starEach [.Call (.Attribute o "values" p2) [] [] pos2] X.env = (false, eval (.Call (.Attribute o "values" p2) [] [] pos2) X.env) :: starEach [] X.env := by rfl)
    (hbase : attributeBase o "values" X.env (eval o X.env) = eval o X.env := by rfl) (hline : (p2.endLine == pos2.line) = true := by rfl) :
    PE X (.Call (.Name "list" p) [.Call (.Attribute o "values" p2) [] [] pos2] [] pos) (tM T W (lvE f)) := by
  refine ⟨fun pins s σ H Q I hq => ?_⟩
  refine wpAny_Call_Name_kw (ld_blt I hg hm (u := .type "list") (by decide +kernel) ?_)
  refine PyProof.Rows.callWith_type1 ?_ hs rfl
  rw [hs]
  show wpAny _ _ (spliced ((false, eval (.Call (.Attribute o "values" p2) [] [] pos2) X.env) :: backTo pos (starEach [] X.env))) _ _ s
  refine Calls.spliced_cons ?_
  have q1 : tM T W f σ H fun x H1 => ∃ w S d, w.H = H1 ∧ Wd T w S ∧ Rep T w.lam w.G d x ∧ PG T (fun c d H' => W c d σ H') (RepV T) Q w (M.lift (valsLD d) S) :=
    tR_bnd (f := f) (k := fun _ d => M.lift (valsLD d)) hq fun sd S1 d x w1 d1 s1 r1 h1 => ⟨w1, S1, d, rfl, d1, r1, h1⟩
  refine wpAny_Call_method (T := "dict") (id := "dict.values") hbase rfl hline F.plainAttrs_dict F.slot_dict_values F.type_dict_values (thn (ho.run pins s σ H _ I q1) fun uu s1 ⟨x, H1, I1, rx, w1, S1, d, e1, d1, rr, q⟩ => ?_)
  subst e1
  match d, q, rr with
  | .dct b ks vs, q, .dct (a := a) (u := u) (kv := kv) (vv := vv) ha g r1 r2 =>
    obtain rfl : uu = Value.ref a := rx
    obtain ⟨nb, hd, hx, es, ep, hdt, sn⟩ := frz_seen k I1 (d1.sub _ _ ha) g
    have raw : s1.heap.DictRaw a es ep := ⟨_, hd, hx, hdt⟩
    refine ⟨raw.typeIs, ?_, ?_⟩
    · intro c e; cases e; exact ⟨_, hd, hx.2.1⟩
    have I2 : Inv X pins σ w1.H { s1 with heap := s1.heap.push { cls := .type "dict_values", data := .fields #[.ref a] } } := I1.kept (t' := s1.toks) fun b ob q => Heap.get?_push_of_some _ q
    by_cases hl : vs.length ≤ sizeLine
    · have hv : valsLD (.dct b ks vs) = some (.lst vs) := by simp [valsLD, hl]
      rw [hv] at q
      have n1 : es.size = vv.length := by rw [sn.size, sn.same]
      have fin : wpAny (model X.prog X.w) X.A (call (.type "list") [.ref s1.heap.objs.size]) (EP X pins σ Q) X.xe { s1 with heap := s1.heap.push { cls := .type "dict_values", data := .fields #[.ref a] } } := by
        refine PySem.W.kdl_call (PySem.KdlSrc.rawValues (r := s1.heap.objs.size) (d := a) (es := es) (ep := ep)) (I1.ok.hd hc) ⟨⟨_, Heap.get?_push_size _ rfl, rfl, rfl⟩, raw.at fun o e => Heap.get?_push_of_some _ e⟩ (by rw [n1, ← r2.length]; exact hl) fun h' tk acc c k1 k2 k3 => ?_
        have rv : Vals vv acc.toList := items_vals n1 k3 fun i u z ⟨hi, e⟩ ez => by
          have hk : i < kv.length := by rw [← sn.size]; exact hi
          obtain ⟨en, e1, _, e2⟩ := sn.at_ i kv[i] z (List.getElem?_eq_getElem hk) ez
          rw [Array.getElem?_eq_getElem hi] at e1
          cases e1
          rw [e]
          exact e2
        have fS := I2.hok.fresh (Nat.le_refl _)
        obtain ⟨al, rr⟩ := new_lst d1 fS r2
        exact ⟨.ref _, _, I2.laid (t' := tk) k1 (Nat.le_refl _) (show ObjOk X.prog X.w _ h' _ (.lst vv) from ⟨by rw [← r2.length]; exact hl, acc.toList, c, rv, by rw [Array.toArray_toList]; exact k2⟩), rfl, q _ _ al.ext (d1.alc al) rr⟩
      show wpAny _ _ (callWith pos2 (.builtin "dict.values") [.ref a] [] []) _ X.xe s1
      exact method_meetsIn F.slot_dict_values F.entry_dict_values rfl (PySem.evalArgs_none ⟨rfl, raw.typeIs, F.args_dict_values_1 _, _, meets_dict_values_raw a nb, ⟨es, ep, raw⟩, Calls.spliced_nil fin⟩)
    · have hv : valsLD (.dct b ks vs) = none := by simp [valsLD, hl]
      rw [hv] at q
      exact q.elim
theorem ivals {W : WX} {tg e : Expr} {apos cpos : Pos} {f : EF} (he : PE X e (tM T W f)) (k : Lk T X := by exact ⟨rfl, rfl, rfl⟩) (hbase : attributeBase e "values" X.env (eval e X.env) = eval e X.env := by rfl) (hline : (apos.endLine == cpos.line) = true := by rfl) : PI X tg (.Call (.Attribute e "values" apos) [] [] cpos) (tMI T W (valsI f)) := ji_vals k he hbase hline
end
end Q
set_option Elab.async false
set_option linter.all false
set_option maxRecDepth 100000
set_option maxHeartbeats 4000000
namespace Q
open PySem PySem.Spec PyProof.Rows L2
abbrev SuiteT := Addr → Value → Option Addr → TS
/-- behind the suite the name is unbound again -/
def endsA (i : Nat) (D : Ends) : Ends := { nx := fun σ' H' => D.nx (σ'.set i none) H', rt := D.rt, bk := fun σ' H' => D.bk (σ'.set i none) H', ct := fun σ' H' => D.ct (σ'.set i none) H' }
def wAsM (K : PySem.W.Frag) (i : Nat) (Wout : WX) (D : Ends) : List (Value × SuiteT) → WX
  | [] => Wout
  | p :: r => fun cls d σ H => ∃ b, PySem.W.exmOne K cls p.1 = some b ∧ (b = true → ∀ a, H a = none → p.2 a cls d (endsA i D) (σ.set i (some (.ref a))) H) ∧ (b = false → wAsM K i Wout D r cls d σ H)
inductive HdsA (X : Cx) (n : Str) : List ExceptHandler → List (Value × SuiteT) → Prop
  | nil : HdsA X n [] []
  | cons {x : Str} {c : Value} {ts : SuiteT} {b₀ : Stmt} {suite : List Stmt} {np pos' : Pos} {hds : List ExceptHandler} {l : List (Value × SuiteT)} (hc : L2.Names X x c)
      (hsu : ∀ (a : Addr) (oe : Obj) (cls : Value) (d : Option Addr) (pn : List (Addr × Obj)), L2N.Zn cls d oe → (∃ vs, oe.data = .fields vs) → PSs (X.suite a ((a, oe) :: pn)) (b₀ :: suite) (ts a cls d)) (r : HdsA X n hds l) :
      HdsA X n (.ExceptHandler (some (.Name x np)) (some n) (b₀ :: suite) pos' :: hds) ((c, ts) :: l)
section
open L2N
variable {X : Cx} {n : Str} {i : Nat} {body : List Stmt} {h₀ : ExceptHandler} {hds : List ExceptHandler} {l : List (Value × SuiteT)} {pos : Pos} {tb : WX → TS} {Wout : WX}
theorem ps_try_asM (hs : X.stack = X.env :: X.outer) (hf : X.env.frame = some X.env.locals) (hN : X.N.Nodup) (hi : X.N[i]? = some n) (hln : X.env.kindOf n = some .local) (tk : L2N.Takes X Wout)
    (hb : ∀ (W : WX) (pn : List (Addr × Obj)) (xe : Value → Shared → Prop), L2N.Takes (X.tr pn xe) W → PassesOwn (model X.prog X.w) X.A X.env xe → PSs (X.tr pn xe) body (tb W))
    (hh : HdsA X n (h₀ :: hds) l) : PS X (.Try body (h₀ :: hds) [] [] pos) (fun D σ H => tb (wAsM X.K i Wout D l) D σ H) := by
  refine ⟨fun pins s σ H D I h => ?_⟩
  have ok := I.ok
  have hloc : Loc X.env.scope n := .inl hln
  have hfr : X.A.frames = some (X.env :: X.outer) := ok.frames.trans (by rw [hs])
  refine wpAny_Try_except (wpAny_mono ((hb (wAsM X.K i Wout D l) (X.pn ++ pins) (fun e s₁ => wpAny (model X.prog X.w) X.A (noteFrame e X.env) (fun _ s₂ => wpAny (model X.prog X.w) X.A (setFlight e none) (fun _ s₃ =>
    wpAny (model X.prog X.w) X.A (handleBy e X.env (h₀ :: hds)) (SP X pins D) X.xe s₃) X.xe s₂) X.xe s₁) (fun u s' xx => ?_) PassesOwn.looking).run [] s σ H D (I.toTry _) h) (fun f s1 hsp => ?_) (fun e s1 he => he))
  · obtain ⟨a, B, sI, pins', σ', H', cls, d, rfl, J', nb, up, sky, na, os, ag, w⟩ := xx
    have J : Inv X pins σ' H' sI := J'.ofTry ok
    have sky' : Sky B (X.env :: X.outer) a (L2N.Zn cls d) X.env.locals s'.heap := hs ▸ sky
    show wpAny (model X.prog X.w) X.A (noteFrame (.ref a) X.env) _ _ _
    refine Sky.land L2N.Zn.steady hfr hf sky' fun h3 fl3 up3 => ?_
    have J3 : Inv X pins σ' H' { s' with heap := h3 } := J.landed nb fl3.1 (up.trans up3) os ag
    obtain ⟨oe3, vs3, he3, hz3, hd3⟩ := fl3.there
    have nfr : a ∉ frs (X.env :: X.outer) := fun hm => by
      obtain ⟨_, o', e', hnf⟩ := fl3.2.2.1.mem hm
      cases he3.symm.trans e'
      exact hnf _ hd3
    have nL : a ≠ X.env.locals := fun z => nfr (List.mem_filterMap.mpr ⟨X.env, List.mem_cons_self, hf.trans (congrArg some z.symm)⟩)
    have nF : a ∉ X.fs := fun hm => by
      obtain ⟨e, he, q⟩ := List.mem_filterMap.mp hm
      exact nfr (List.mem_filterMap.mpr ⟨e, List.mem_cons_of_mem _ he, q⟩)
    have S3 := J3.suite he3 hd3 na nL nF
    have go : ∀ {hs' : List ExceptHandler} {l' : List (Value × SuiteT)}, HdsA X n hs' l' → wAsM X.K i Wout D l' cls d σ' H' → wpAny (model X.prog X.w) X.A (handleBy (.ref a) X.env hs') (SP X pins D) X.xe { s' with heap := h3 } := by
      intro hs' l' hk
      induction hk with
      | nil =>
        intro w
        refine wpAny_handleBy_nil ?_
        obtain ⟨k1, k2, k3, oe, vs, T, oT, ts', he, hz, hd, h1, hr⟩ := id fl3
        unfold PySem.passOn
        refine wpAny_bind (wpAny_field he hd h1 ?_)
        rw [if_neg (show ¬ ((Value.ref T == Value.none) = true) from by simp)]
        have fin : wpAny (model X.prog X.w) X.A (setFlight (.ref a) X.env.frame) (fun _ s4 => wpAny (model X.prog X.w) X.A (throw (.ref a) : Sem Flow) (SP X pins D) X.xe s4) X.xe { s' with heap := h3 } := by
          rw [hf]
          exact HandSPX.setFlight_upZ fl3 fun h4 hh4 up4 => wpAny_throw (tk _ _ ⟨a, B, sI, pins, σ', H', cls, d, rfl, J, nb, (up.trans up3).trans up4, .inr (.inr (hs ▸ hh4)), na, os, ag, w⟩)
        first
          | exact wpAny_bind (wpAny_pure (wpAny_bind fin))
          | exact wpAny_bind fin
      | @cons x c ts b₀ suite np pos' hds2 l2 hc hsu r ih =>
        intro w
        obtain ⟨b, hb1, hyes, hno⟩ := w
        refine wpAny_handleBy_cons (codeAny_handlers_test ?_) (by intro q; cases q)
        have LT : PySem.W.Looks (model X.prog X.w) h3 (typeOf (.ref a)) cls := fun A Q E s k q => wpAny_typeOf_ref (k _ _ he3) (by rw [hz3.1]; exact q)
        have LM := PySem.W.exm_one (M := model X.prog X.w) (J3.kIn) LT hb1
        have test : ∀ {Q : Value → Shared → Prop} {E : Value → Shared → Prop}, Q c { s' with heap := h3 } → wpAny (model X.prog X.w) (X.A.mark (some (.ref a))) (eval (.Name x np) X.env) Q E { s' with heap := h3 } := fun {Q E} q => by
          obtain ⟨hg, hdbg, hm | ⟨hm, hv, hnn⟩⟩ := hc
          · exact ld_glob (X := X.suite a ((a, oe3) :: (X.pn ++ pins))) S3 hg hm q hdbg
          · exact ld_blt (X := X.suite a ((a, oe3) :: (X.pn ++ pins))) S3 hg hm hv q hnn hdbg
        refine test (LM.here ?_)
        cases b with
        | false => exact ih (hno rfl)
        | true =>
          refine codeAny_handlers_suite_as (HandSPX.lands_againZ fl3 fun h4 fl4 up4 => ?_)
          have J4 : Inv X pins σ' H' { s' with heap := h4 } := J.landed nb fl4.1 ((up.trans up3).trans up4) os ag
          obtain ⟨oe4, vs4, he4, hz4, hd4⟩ := fl4.there
          have S4 := J4.suite he4 hd4 na nL nF
          refine store_ok (X := X.suite a ((a, oe4) :: (X.pn ++ pins))) (v := .ref a) S4 hN hi hloc rfl (fun s5 S5 => ?_) (.inr hln)
          refine wpAny_mono ((hsu a oe4 cls d (X.pn ++ pins) hz4 ⟨_, hd4⟩).run [] s5 _ H' _ S5 (hyes rfl a na)) (fun f s6 hsp => ?_) (fun _ _ z => False.elim z)
          have end_ : ∀ {σ6 : L2.St} {H6 : Hp} {Q : Shared → Prop}, Inv (X.suite a ((a, oe4) :: (X.pn ++ pins))) [] σ6 H6 s6 → (∀ s7, Inv X pins (σ6.set i none) H6 s7 → Q s7) →
              wpAny (model X.prog X.w) X.A (do bindName X.env n .none; unbindBehindTheSuite X.env n pos') (fun _ s7 => Q s7) X.xe s6 := fun {σ6 H6 Q} S6 hq => gone_ok (S6.unsuite ok) hN hi hln hq
          cases f with
          | ret u =>
            obtain ⟨v6, σ6, H6, S6, r6, q6⟩ := hsp
            exact end_ S6 fun s7 J7 => ⟨_, _, _, J7, r6, q6⟩
          | next =>
            obtain ⟨σ6, H6, S6, q6⟩ := hsp
            exact end_ S6 fun s7 J7 => ⟨_, _, J7, q6⟩
          | brk =>
            obtain ⟨σ6, H6, S6, q6⟩ := hsp
            exact end_ S6 fun s7 J7 => ⟨_, _, J7, q6⟩
          | cont =>
            obtain ⟨σ6, H6, S6, q6⟩ := hsp
            exact end_ S6 fun s7 J7 => ⟨_, _, J7, q6⟩
    exact go hh w
  · cases f with
    | ret u =>
      obtain ⟨v, σ', H', J', r, q⟩ := hsp
      exact ⟨v, σ', H', J'.ofTry ok, r, q⟩
    | next =>
      obtain ⟨σ', H', J', q⟩ := hsp
      exact wpAny_execs_nil ⟨σ', H', J'.ofTry ok, q⟩
    | brk =>
      obtain ⟨σ', H', J', q⟩ := hsp
      exact ⟨σ', H', J'.ofTry ok, q⟩
    | cont =>
      obtain ⟨σ', H', J', q⟩ := hsp
      exact ⟨σ', H', J'.ofTry ok, q⟩
end
end Q
set_option Elab.async false
set_option linter.all false
set_option maxRecDepth 100000
set_option maxHeartbeats 4000000
namespace Q
open PySem PySem.Spec PyProof.Rows L2 HotX
section
variable {prog : Program} {w : World} {A : Around} {E : Value → Shared → Prop} {s : Shared}
/-- a list's iterator is at its end: the StopIteration takes the handled exception as its context -/
theorem nextEndHot {it l x1 : Addr} {i : Nat} {items : Array Value} {Q : Value → Shared → Prop} (hot : HotAt A x1 s.heap) (hit : s.heap.IsListIter it l i) (hl : s.heap.IsList l items) (hx : items[i]? = none)
    (hE : ∀ h' e, Heap.ExtBut it s.heap h' → (∃ o, h'.get? e = some o ∧ o.cls = .type "StopIteration") → E (.ref e) { s with heap := h' }) :
    wpAny (model prog w) A (Builtin.SmallTypes.nextOf (.ref it)) Q E s := by
  obtain ⟨o, ho, hc, hd⟩ := id hit
  obtain ⟨ol, hol, _, nl, hdl⟩ := hl
  obtain ⟨hh, o1, v1, e1, d1, c1⟩ := hot
  have n1 : x1 ≠ it := fun z => by
    rw [z, ho] at e1
    cases e1
    rw [hd] at d1
    cases d1
    simp at c1
  unfold Builtin.SmallTypes.nextOf
  refine wpAny_bind (wpAny_callSpecial?_slot (name := Str.ofString "__next__") hit.typeIs slot_listiter_next
    (wpAny_call_entry slot_listiter_next hit.typeIs entry_listiter_next ?_ (args_listiter_next _)))
  show wpAny _ _ (field (.ref it) 0 >>= _) _ _ s
  refine wpAny_bind (wpAny_field ho hd (x := .ref l) rfl ?_)
  show wpAny _ _ (if (Value.ref l == Value.none) = true then _ else _) _ _ s
  rw [if_neg (show ¬ ((Value.ref l == Value.none) = true) from Bool.false_ne_true)]
  show wpAny _ _ (field (.ref it) 1 >>= _) _ _ s
  refine wpAny_bind (wpAny_field ho hd (x := .int i 0) rfl ?_)
  show wpAny _ _ (seqItems? (.ref l) >>= _) _ _ s
  refine wpAny_bind (wpAny_seqItems hol hdl ?_)
  simp only [Int.toNat_natCast, hx]
  refine wpAny_bind (wpAny_rule (wpAny_bind (wpAny_setField ho hd (by simp) ?_)))
  show wpAny _ _ (newExc (.type "StopIteration") [] >>= _) _ _ _
  refine wpAny_bind ?_
  simp only [newExc, newTuple]
  refine wpAny_bind (wpAny_newObj_type ?_ (by size_fits))
  refine wpAny_bind (m := firstArgMember _ _) (wpAny_of_eq (a := Value.none) (by first | rfl | (simp only [firstArgMember]; rfl)) ?_)
  refine wpAny_newObj_type ?_ (by size_fits)
  have k1 : (s.heap.update it (Obj.mapFields (·.set! 0 .none))).get? x1 = some o1 := (Heap.get?_update_other _ _ (Ne.symm n1)).trans e1
  refine raiseNew_hot ⟨hh, o1, v1, Heap.get?_push_of_some _ (Heap.get?_push_of_some _ k1), d1, c1⟩ (Nat.ne_of_lt (Heap.lt_size (Heap.get?_push_of_some _ k1))) (Heap.get?_push_size _ rfl) rfl (by first | (simp; done) | (simp; omega) | (simp only [Array.size_append]; simp; omega)) ?_
  refine hE _ _ (fun b ob hb e => ?_) ⟨_, Heap.get?_update_self _ (Heap.get?_push_size _ rfl) rfl, rfl⟩
  have k2 : (s.heap.update it (Obj.mapFields (·.set! 0 .none))).get? b = some ob := (Heap.get?_update_other _ _ (Ne.symm hb)).trans e
  exact (Heap.get?_update_other _ _ (Nat.ne_of_gt (Heap.lt_size (Heap.get?_push_of_some _ k2)))).trans (Heap.get?_push_of_some _ (Heap.get?_push_of_some _ k2))
theorem zipEndHot {z TI TO i1 i2 l1 l2 x1 : Addr} {k1 k2 : Nat} {xs ys : Array Value} {a b : Value} {Q : Fin → Shared → Prop} (hot : HotAt A x1 s.heap) (D : ZipApart z TI TO i1 i2 l1 l2)
    (hz : IsZip s.heap z TI TO .none) (hTI : IsPair s.heap TI (.ref i1) (.ref i2)) (hTO : IsPair s.heap TO a b)
    (h1 : s.heap.IsListIter i1 l1 k1) (h2 : s.heap.IsListIter i2 l2 k2) (hl1 : s.heap.IsList l1 xs) (hl2 : s.heap.IsList l2 ys) (hend : xs[k1]? = none ∨ ys[k2]? = none)
    (hE : ∀ h' e, (∀ c o, c ≠ z → c ≠ TO → c ≠ i1 → c ≠ i2 → s.heap.get? c = some o → h'.get? c = some o) → (∃ o, h'.get? e = some o ∧ o.cls = .type "StopIteration") → E (.ref e) { s with heap := h' }) :
    wpAny (model prog w) A (Builtin.«zip.__next__» ⟨[.ref z], []⟩) Q E s := by
  obtain ⟨hh, o1, v1, e1, d1, c1⟩ := hot
  have nz : x1 ≠ z := fun q => by
    rw [q, hz] at e1
    cases e1
    cases d1
    simp at c1
  have nO : x1 ≠ TO := fun q => by
    rw [q, hTO] at e1
    cases e1
    cases d1
  have n1 : x1 ≠ i1 := fun q => by
    obtain ⟨o, ho, _, hd⟩ := h1
    rw [q, ho] at e1
    cases e1
    rw [hd] at d1
    cases d1
    simp at c1
  show wpAny _ _ (field (.ref z) 2 >>= _) _ _ _
  refine wpAny_bind (wpAny_field hz rfl (x := .bool false) rfl ?_)
  show wpAny _ _ (field (.ref z) 3 >>= _) _ _ _
  refine wpAny_bind (wpAny_field hz rfl (x := .ref TI) rfl (wpAny_bind (wpAny_seqItems hTI rfl ?_)))
  show wpAny _ _ (Builtin.SmallTypes.ownedTupleIsFree (.ref z) >>= _) _ _ _
  refine wpAny_bind ?_
  unfold Builtin.SmallTypes.ownedTupleIsFree
  refine wpAny_bind (wpAny_field hz rfl (x := .none) rfl (wpAny_pure ?_))
  simp only [if_true]
  refine wpAny_bind (wpAny_rule (wpAny_bind (wpAny_field hz rfl (x := .ref TO) rfl (wpAny_bind (wpAny_setField_rec hz (by simp) fun h₁ hz₁ hs₁ => ?_)))))
  replace hz₁ : IsZip h₁ z TI TO .ellipsis := hz₁
  refine wpAny_bind ?_
  simp only [List.zipIdx_cons, List.zipIdx_nil, List.forIn_cons, List.forIn_nil]
  refine wpAny_bind (wpAny_bind (wpAny_onRaise ?_))
  show wpAny _ _ (Builtin.SmallTypes.nextOf (.ref i1) >>= _) _ _ _
  have g1 : h₁.get? x1 = some o1 := hs₁.extBut _ _ nz e1
  cases hx : xs[k1]? with
  | none =>
    refine wpAny_bind (nextEndHot ⟨hh, o1, v1, g1, d1, c1⟩ (h1.extBut hs₁.extBut D.i1z) (hl1.extBut hs₁.extBut D.l1z) hx fun h₂ e hs₂ he => ?_)
    obtain ⟨oe, hoe, hce⟩ := he
    have hz₂ : IsZip h₂ z TI TO .ellipsis := hs₂ _ _ D.i1z.symm hz₁
    have hez : e ≠ z := fun x => by subst x; rw [hz₂] at hoe; cases hoe; simp at hce
    exact wpAny_setField_rec hz₂ (by simp) fun h₃ _ hs₃ => hE h₃ e (fun c o c1 _ c3 _ x => hs₃.extBut _ _ c1 (hs₂ _ _ c3 (hs₁.extBut _ _ c1 x))) ⟨oe, hs₃.extBut _ _ hez hoe, hce⟩
  | some x =>
    have hy : ys[k2]? = none := hend.resolve_left (by rw [hx]; exact fun q => by cases q)
    refine wpAny_bind (wpAny_nextOf_list_item (h1.extBut hs₁.extBut D.i1z) (hl1.extBut hs₁.extBut D.l1z) hx fun h₂ h1₂ hs₂ => wpAny_pure ?_)
    have hTO₂ : IsPair h₂ TO a b := hs₂.extBut _ _ D.TOi1 (hs₁.extBut _ _ D.TOz hTO)
    refine wpAny_bind (wpAny_seqItems hTO₂ rfl (wpAny_bind (wpAny_updateSeq_pair hTO₂ fun h₃ hTO₃ hs₃ => ?_)))
    refine wpAny_bind (wpAny_letGo (wpAny_pure (wpAny_bind (wpAny_bind (wpAny_onRaise ?_)))))
    show wpAny _ _ (Builtin.SmallTypes.nextOf (.ref i2) >>= _) _ _ _
    have g3 : h₃.get? x1 = some o1 := hs₃.extBut _ _ nO (hs₂.extBut _ _ n1 g1)
    refine wpAny_bind (nextEndHot ⟨hh, o1, v1, g3, d1, c1⟩ (((h2.extBut hs₁.extBut D.i2z).extBut hs₂.extBut D.i12.symm).extBut hs₃.extBut D.TOi2.symm)
      (((hl2.extBut hs₁.extBut D.l2z).extBut hs₂.extBut D.l2i1).extBut hs₃.extBut D.l2TO) hy fun h₄ e hs₄ he => ?_)
    obtain ⟨oe, hoe, hce⟩ := he
    have hz₄ : IsZip h₄ z TI TO .ellipsis := hs₄ _ _ D.i2z.symm (hs₃.extBut _ _ D.TOz.symm (hs₂.extBut _ _ D.i1z.symm hz₁))
    have hez : e ≠ z := fun x => by subst x; rw [hz₄] at hoe; cases hoe; simp at hce
    exact wpAny_setField_rec hz₄ (by simp) fun h₅ _ hs₅ => hE h₅ e (fun c o c1 c2 c3 c4 x => hs₅.extBut _ _ c1 (hs₄ _ _ c4 (hs₃.extBut _ _ c2 (hs₂.extBut _ _ c3 (hs₁.extBut _ _ c1 x))))) ⟨oe, hs₅.extBut _ _ hez hoe, hce⟩
theorem pyNext_zipEndHot {z TI TO i1 i2 l1 l2 x1 : Addr} {k1 k2 : Nat} {xs ys : Array Value} {a b : Value} {Q : Option Value → Shared → Prop} (hot : HotAt A x1 s.heap) (D : ZipApart z TI TO i1 i2 l1 l2)
    (hz : IsZip s.heap z TI TO .none) (hTI : IsPair s.heap TI (.ref i1) (.ref i2)) (hTO : IsPair s.heap TO a b)
    (h1 : s.heap.IsListIter i1 l1 k1) (h2 : s.heap.IsListIter i2 l2 k2) (hl1 : s.heap.IsList l1 xs) (hl2 : s.heap.IsList l2 ys) (hend : xs[k1]? = none ∨ ys[k2]? = none)
    (hQ : ∀ h', (∀ c o, c ≠ z → c ≠ TO → c ≠ i1 → c ≠ i2 → s.heap.get? c = some o → h'.get? c = some o) → Q none { s with heap := h' }) : wpAny (model prog w) A (pyNext (.ref z)) Q E s := by
  have hT : s.TypeIs (.ref z) "zip" := ⟨_, hz, rfl⟩
  have hot1 : HotAt A.in1 x1 s.heap := hot
  unfold pyNext
  refine wpAny_bind (wpAny_attempt (wpAny_callSpecial?_slot (name := Str.ofString "__next__") hT F.slot_zip_next
    (wpAny_call_entry F.slot_zip_next hT F.entry_zip_next (zipEndHot hot D hz hTI hTO h1 h2 hl1 hl2 hend fun h' e hk he => ?_) (F.args_zip_next_1 _))))
  obtain ⟨o, ho, hc⟩ := he
  exact wpAny_bind (wpAny_isInstance (T := "StopIteration") (b := true) ⟨o, ho, hc⟩ isSubtype_stop (wpAny_pure (hQ _ hk)))
theorem nextTupEndHot {it t x1 : Addr} {i : Nat} {items : Array Value} {Q : Option Value → Shared → Prop} (hot : HotAt A x1 s.heap) (hit : IsTupIter s.heap it t i) (ht : IsTup s.heap t items) (hx : items[i]? = none)
    (hQ : ∀ h', Heap.ExtBut it s.heap h' → Q none { s with heap := h' }) : wpAny (model prog w) A (pyNext (.ref it)) Q E s := by
  obtain ⟨o, ho, hc, hd⟩ := id hit
  obtain ⟨ol, hol, _, nl, hdl⟩ := ht
  obtain ⟨hh, o1, v1, e1, d1, c1⟩ := hot
  have n1 : x1 ≠ it := fun z => by
    rw [z, ho] at e1
    cases e1
    rw [hd] at d1
    cases d1
    simp at c1
  unfold pyNext
  refine wpAny_bind (wpAny_attempt (wpAny_callSpecial?_slot (name := Str.ofString "__next__") hit.typeIs slot_tupleiter_next
    (wpAny_call_entry slot_tupleiter_next hit.typeIs entry_tupleiter_next ?_ (args_tupleiter_next _))))
  show wpAny _ _ (field (.ref it) 0 >>= _) _ _ s
  refine wpAny_bind (wpAny_field ho hd (x := .ref t) rfl ?_)
  show wpAny _ _ (if (Value.ref t == Value.none) = true then _ else _) _ _ s
  rw [if_neg (show ¬ ((Value.ref t == Value.none) = true) from Bool.false_ne_true)]
  show wpAny _ _ (field (.ref it) 1 >>= _) _ _ s
  refine wpAny_bind (wpAny_field ho hd (x := .int i 0) rfl ?_)
  show wpAny _ _ (seqItems? (.ref t) >>= _) _ _ s
  refine wpAny_bind (wpAny_seqItems hol hdl ?_)
  simp only [Int.toNat_natCast, hx]
  refine wpAny_bind (wpAny_rule (wpAny_bind (wpAny_setField ho hd (by simp) ?_)))
  show wpAny _ _ (newExc (.type "StopIteration") [] >>= _) _ _ _
  refine wpAny_bind ?_
  simp only [newExc, newTuple]
  refine wpAny_bind (wpAny_newObj_type ?_ (by size_fits))
  refine wpAny_bind (m := firstArgMember _ _) (wpAny_of_eq (a := Value.none) (by first | rfl | (simp only [firstArgMember]; rfl)) ?_)
  refine wpAny_newObj_type ?_ (by size_fits)
  have k1 : (s.heap.update it (Obj.mapFields (·.set! 0 .none))).get? x1 = some o1 := (Heap.get?_update_other _ _ (Ne.symm n1)).trans e1
  refine raiseNew_hot ⟨hh, o1, v1, Heap.get?_push_of_some _ (Heap.get?_push_of_some _ k1), d1, c1⟩ (Nat.ne_of_lt (Heap.lt_size (Heap.get?_push_of_some _ k1))) (Heap.get?_push_size _ rfl) rfl (by first | (simp; done) | (simp; omega) | (simp only [Array.size_append]; simp; omega)) ?_
  refine wpAny_bind (wpAny_isInstance (T := "StopIteration") (b := true) ⟨_, Heap.get?_update_self _ (Heap.get?_push_size _ rfl) rfl, rfl⟩ isSubtype_stop ?_)
  refine wpAny_pure (hQ _ fun b ob hb e => ?_)
  have k2 : (s.heap.update it (Obj.mapFields (·.set! 0 .none))).get? b = some ob := (Heap.get?_update_other _ _ (Ne.symm hb)).trans e
  exact (Heap.get?_update_other _ _ (Nat.ne_of_gt (Heap.lt_size (Heap.get?_push_of_some _ k2)))).trans (Heap.get?_push_of_some _ (Heap.get?_push_of_some _ k2))
theorem unpackHot {t x1 : Addr} {items : Array Value} {Q : List Value → Shared → Prop} (hot : HotAt A x1 s.heap) (ht : IsTup s.heap t items)
    (hQ : ∀ h', Heap.ExtBut s.heap.objs.size s.heap h' → Q items.toList { s with heap := h' }) : wpAny (model prog w) A (unpackItems (.ref t) items.size none) Q E s := by
  have hlt : t ≠ s.heap.objs.size := by obtain ⟨o, ho, _⟩ := ht; exact Nat.ne_of_lt (Heap.lt_size ho)
  obtain ⟨hh, o1, v1, e1, d1, c1⟩ := hot
  have n1 : x1 ≠ s.heap.objs.size := Nat.ne_of_lt (Heap.lt_size e1)
  unfold unpackItems
  refine wpAny_bind ?_
  unfold notIterableAtAll
  refine wpAny_bind (wpAny_specialOf ht.typeIs slot_tuple_iter.lookup (wpAny_pure ?_))
  simp only [Bool.false_eq_true, if_false]
  refine wpAny_bind (wpAny_holding (iter_tuple ht (wpAny_bind (wpAny_holding (draw_tuple hlt items.size 0 _ _ ⟨_, Heap.get?_push_size _ rfl, rfl, rfl⟩ (ht.push _) (by omega) fun h₁ hit₁ hs₁ => ?_)))))
  have hall : List.take items.size (List.drop 0 items.toList) = items.toList := by
    rw [List.drop_zero]; exact List.take_of_length_le (by simp)
  rw [hall, if_neg (by simp)]
  have ht₁ : IsTup h₁ t items := (ht.push _).extBut hs₁.extBut hlt
  refine wpAny_bind (wpAny_holding (nextTupEndHot ⟨hh, o1, v1, hs₁.extBut _ _ n1 (Heap.get?_push_of_some _ e1), d1, c1⟩ hit₁ ht₁ (by simp) fun h₂ he₂ => ?_))
  simp only [Option.isSome_none, Bool.false_eq_true, if_false]
  exact wpAny_pure (hQ h₂ fun b o hb e => he₂ b o hb (hs₁.extBut b o hb (Heap.get?_push_of_some _ e)))
end
/-- in every state of the context the handled exception's context is None -/
def HotI (X : Cx) : Prop := ∀ (pins : List (Addr × Obj)) (σ : L2.St) (H : Hp) (s : Shared), Inv X pins σ H s → ∃ x1, HotAt X.A x1 s.heap
theorem hotI_of {X : Cx} (h : L2H.HotC X) : HotI X := fun _ _ _ _ I => h.at I
section
variable {X : Cx} {pos : Pos}
theorem pg_tupHot {es : List Expr} {k : Nat} {t : TGs} {n : Nat} (hc : HotI X) (h : PGs X es t)
    (hn : (assignEach es X.env).length = n := by rfl) (hst : (assignEach es X.env).findIdx? (·.1) = none := by rfl) : L2.PG X (.Tuple es k pos) (gTup X.K n t) := by
  refine ⟨fun pins s σ H v u Q I r hw => ?_⟩
  obtain ⟨a, xs, e1, hq, hl, hw⟩ := hw
  subst e1
  cases r
  obtain ⟨its, rv, ht, hz⟩ := I.tuple hq
  obtain ⟨x1, hot⟩ := hc _ _ _ _ I
  rw [assign_Tuple]
  refine wpAny_bind (wpAny_standAt ?_)
  unfold unpack
  have hn' : (assignEach es X.env).length = its.toArray.size := by simp [hn, ← hl, rv.length]
  rw [hn', hst]
  refine wpAny_bind (wpAny_holding (unpackHot hot ht fun h' hx => ?_))
  have I1 : Inv X pins σ H { s with heap := h' } := I.kept (t' := s.toks) fun b o e => hx b o (Nat.ne_of_lt (Heap.lt_size e)) e
  exact h.run pins _ σ H xs _ Q I1 (by simpa using rv) hw
end
end Q
set_option Elab.async false
set_option linter.all false
set_option maxRecDepth 100000
set_option maxHeartbeats 4000000
namespace Q
open PySem PySem.Spec PyProof.Rows L2 HotX
structure TurnQ (P : Program) (w : World) (K : PySem.W.Frag) (tg : Expr) (J : It) (fp : List Addr) (it : Addr) (tn : Nat → Heap → Prop) : Prop where
  mem : it ∈ fp
  obj : ∀ i h, tn i h → ∀ b ∈ fp, ∃ o, h.get? b = some o ∧ ∀ v, o.data ≠ .cell v
  keep : ∀ i h h', tn i h → (∀ b ∈ fp, ∀ o, h.get? b = some o → h'.get? b = some o) → tn i h'
  item : ∀ (X : Cx), X.prog = P → X.w = w → X.K = K → ∀ (i : Nat) (pins : List (Addr × Obj)) (s : Shared) (σ : L2.St) (H : Hp) (E : Value → Shared → Prop), Inv X pins σ H s → (∀ b ∈ fp, FpOk X pins H b) → tn i s.heap → J.go i H →
    wpAny (model P w) X.A (pyNext (.ref it)) (fun r s1 => ∃ u, r = some u ∧
      wpAny (model P w) X.A (letOwnedTupleGo tg (.ref it) u) (fun _ s2 => ∃ x H', Inv X pins σ H' s2 ∧ RelV x u ∧ J.yld i H x H' ∧ tn (i + 1) s2.heap ∧ ∀ b ∈ fp, H' b = none) E s1) E s
  done : ∀ (X : Cx), X.prog = P → X.w = w → X.K = K → HotI X → ∀ (i : Nat) (pins : List (Addr × Obj)) (s : Shared) (σ : L2.St) (H : Hp) (E : Value → Shared → Prop), Inv X pins σ H s → (∀ b ∈ fp, FpOk X pins H b) → tn i s.heap → J.stop i H →
    wpAny (model P w) X.A (pyNext (.ref it)) (fun r s1 => r = none ∧ Inv X pins σ H s1) E s
  self : ∀ (A : Around) (i : Nat) (s : Shared) (Q : Value → Shared → Prop) (E : Value → Shared → Prop), tn i s.heap → Q (.ref it) s → wpAny (model P w) A (pyIter (.ref it)) Q E s
def PIEQ (X : Cx) (pins : List (Addr × Obj)) (σ : L2.St) (tg : Expr) (R : It → Hp → Prop) (itv : Value) (s2 : Shared) : Prop :=
  ∃ (it : Addr) (fp : List Addr) (tn : Nat → Heap → Prop) (J : It) (H' : Hp), itv = .ref it ∧ Inv X pins σ H' s2 ∧ TurnQ X.prog X.w X.K tg J fp it tn ∧ tn 0 s2.heap ∧ (∀ b ∈ fp, FpOk X pins H' b) ∧ R J H'
structure PIQ (X : Cx) (tg iter : Expr) (wi : TI) : Prop where
  run : ∀ (pins : List (Addr × Obj)) (s : Shared) (σ : L2.St) (H : Hp) (R : It → Hp → Prop), Inv X pins σ H s → wi σ H R →
    wpAny (model X.prog X.w) X.A (eval iter X.env) (fun v s1 => wpAny (model X.prog X.w) X.A (pyIter v) (PIEQ X pins σ tg R) X.xe s1) X.xe s
theorem turnQ_zip {P : Program} {w : World} {K : PySem.W.Frag} {elts : List Expr} {kk : Nat} {tpos : Pos} {a b z TI TO i1 i2 : Addr} (D : ZipApart z TI TO i1 i2 a b) :
    TurnQ P w K (.Tuple elts kk tpos) (Itz K a b) [z, TI, TO, i1, i2] z (fun i h => IsZip h z TI TO .none ∧ IsPair h TI (.ref i1) (.ref i2) ∧ (∃ x y, IsPair h TO x y) ∧ h.IsListIter i1 a i ∧ h.IsListIter i2 b i) where
  mem := (turn_zip (P := P) (w := w) (K := K) (elts := elts) (kk := kk) (tpos := tpos) D).mem
  obj := (turn_zip (P := P) (w := w) (K := K) (elts := elts) (kk := kk) (tpos := tpos) D).obj
  keep := (turn_zip (P := P) (w := w) (K := K) (elts := elts) (kk := kk) (tpos := tpos) D).keep
  self := (turn_zip (P := P) (w := w) (K := K) (elts := elts) (kk := kk) (tpos := tpos) D).self
  item := by
    intro X hP hw hK i pins s σ H E I hf st hg
    subst hP hw hK
    obtain ⟨hz, hTI, ⟨x0, y0, hTO⟩, h1, h2⟩ := st
    obtain ⟨xs, ys, x, y, hqx, hqy, hx, hy⟩ := hg
    obtain ⟨its, rv, p, _⟩ := I.list hqx
    obtain ⟨its2, rv2, p2, _⟩ := I.list hqy
    obtain ⟨u, hu, ru⟩ := rv.get hx
    obtain ⟨u2, hu2, ru2⟩ := rv2.get hy
    have sc : ∀ c ∈ [z, TI, TO, i1, i2], c < s.heap.objs.size := fun c hc => by
      obtain ⟨o, e, _⟩ := (turn_zip (P := X.prog) (w := X.w) (K := X.K) (elts := elts) (kk := kk) (tpos := tpos) D).obj i s.heap ⟨hz, hTI, ⟨x0, y0, hTO⟩, h1, h2⟩ c hc
      exact Heap.lt_size e
    have off : ∀ {c : Addr}, c ∉ [z, TI, TO, i1, i2] → c ≠ z ∧ c ≠ TO ∧ c ≠ i1 ∧ c ≠ i2 := fun {c} h => by
      simp only [List.mem_cons, List.not_mem_nil, or_false, not_or] at h
      exact ⟨h.1, h.2.2.1, h.2.2.2.1, h.2.2.2.2⟩
    refine wpAny_pyNext_zip_item D hz hTI hTO h1 h2 p.isList p2.isList (x := u) (y := u2) (by simpa using hu) (by simpa using hu2) fun h' z' TO' h1' h2' hT hsz hk => ?_
    refine ⟨_, rfl, wpAny_letOwnedTupleGo_zip (s := { s with heap := h' }) z' fun h'' z'' sb => ?_⟩
    have hT2 : h''.get? s.heap.objs.size = some { cls := .type "tuple", data := .seq #[u, u2] } := (sb.2 _ (Nat.ne_of_gt (sc z (by simp)))).trans hT
    have I1 : Inv X pins σ (upd H s.heap.objs.size (.tup [x, y])) { s with heap := h'' } :=
      I.turnedNew (t' := s.toks) (ch := [z, TI, TO, i1, i2]) (fun c o hb q => (sb.2 c (off hb).1).trans (hk c o (off hb).1 (off hb).2.1 (off hb).2.2.1 (off hb).2.2.2 q)) hf (Nat.le_refl _)
        ⟨by show 2 ≤ sizeLine; decide, [u, u2], .cons ru (.cons ru2 .nil), ⟨_, hT2, rfl, _, rfl⟩⟩
    exact ⟨.ref s.heap.objs.size, _, I1, rfl, ⟨_, x, y, rfl, I.hok.fresh (Nat.le_refl _), rfl, fun l hl => by rw [I.list_inj hl hqx]; exact hx, fun l hl => by rw [I.list_inj hl hqy]; exact hy⟩,
      ⟨z'', (sb.2 _ D.TIz).trans (hk _ _ D.TIz D.TITO D.TIi1 D.TIi2 hTI), ⟨u, u2, (sb.2 _ D.TOz).trans TO'⟩, h1'.at fun o q => (sb.2 _ D.i1z).trans q, h2'.at fun o q => (sb.2 _ D.i2z).trans q⟩,
      fun c hc => (upd_ne (Nat.ne_of_lt (sc c hc))).trans (hf c hc).1⟩
  done := by
    intro X hP hw hK hc i pins s σ H E I hf st hg
    subst hP hw hK
    obtain ⟨hz, hTI, ⟨x0, y0, hTO⟩, h1, h2⟩ := st
    obtain ⟨xs, ys, hqx, hqy, hend⟩ := hg
    obtain ⟨its, rv, p, _⟩ := I.list hqx
    obtain ⟨its2, rv2, p2, _⟩ := I.list hqy
    have l1 := rv.length
    have l2 := rv2.length
    obtain ⟨x1, hot⟩ := hc _ _ _ _ I
    have he : its.toArray[i]? = none ∨ its2.toArray[i]? = none := hend.imp (fun q => by simp; omega) fun q => by simp; omega
    exact pyNext_zipEndHot hot D hz hTI hTO h1 h2 p.isList p2.isList he fun h' hk => ⟨rfl, I.turnedL (t' := s.toks) (ch := [z, TI, TO, i1, i2]) (fun c o hb q =>
      hk c o (fun q' => hb (by simp [q'])) (fun q' => hb (by simp [q'])) (fun q' => hb (by simp [q'])) (fun q' => hb (by simp [q'])) q) hf⟩
theorem piQ_zip {X : Cx} {e e2 : Expr} {ta : TA} {p pos tpos : Pos} {elts : List Expr} {kk : Nat} (hg : Gl X "zip") (hm : X.mg "zip" = none) (ha : PA X [e, e2] ta)
    (hs : starEach [e, e2] X.env = (false, eval e X.env) :: starEach [e2] X.env := by rfl) (hpl : (backTo pos (starEach [e2] X.env)).any (·.1) = false := by rfl) :
    PIQ X (.Tuple elts kk tpos) (.Call (.Name "zip" p) [e, e2] [] pos) (iZip X.K ta) := by
  refine ⟨fun pins s σ H R I h => Call_ (ld_blt I hg hm PyProof.Rows.boot_zip (PyProof.Rows.callWith_type1 (thn (ha.run pos pins s σ H _ I h) fun us s1 ⟨vs, H1, I1, r1, q1⟩ => ?_) hs hpl))⟩
  obtain ⟨a, b, xs, ys, ex, hqx, hqy, q⟩ := q1
  subst ex
  cases r1 with
  | cons r rr =>
    cases rr with
    | cons r' rr =>
      cases rr
      cases r
      cases r'
      obtain ⟨its, rv, p1, _⟩ := I1.list hqx
      obtain ⟨its2, rv2, p2, _⟩ := I1.list hqy
      refine call_zip_2 p1.isList p2.isList fun h' hz hTI hTO h1 h2 hsz hk => wpAny_pyIter_zip hz ?_
      refine ⟨s1.heap.objs.size + 4, [s1.heap.objs.size + 4, s1.heap.objs.size + 2, s1.heap.objs.size + 3, s1.heap.objs.size, s1.heap.objs.size + 1], _, _, H1, rfl, I1.kept (t' := s1.toks) hk, turnQ_zip (PySem.W.ktu_apart s1.heap.objs.size a b p1.lt p2.lt), ⟨hz, hTI, ⟨_, _, hTO⟩, h1, h2⟩, fun c hcm => ?_, q⟩
      have hle : s1.heap.objs.size ≤ c := by
        simp only [List.mem_cons, List.not_mem_nil, or_false] at hcm
        rcases hcm with z | z | z | z | z <;> rw [z] <;> omega
      exact I1.fpOk hle (I1.hok.fresh hle)
section
variable {X : Cx}
/-- the block of a comprehension within a suite keeps the handled exception as it is -/
theorem hotI_blk {pins : List (Addr × Obj)} {σ : L2.St} {H H3 : Hp} {s s3 : Shared} {scope : Scope} {ce : Env} {fp : List Addr} (hc : L2H.HotC X) (I : Inv X pins σ H s) (hf : ∀ b ∈ fp, FpOk X pins H3 b) (h3 : ∀ b, b < s.heap.objs.size → H b = none → H3 b = none) (k3 : ∀ b o, s.heap.get? b = some o → s3.heap.get? b = some o) : HotI (X.blk s3 H3 scope ce fp) := by
  obtain ⟨p, ⟨hh, v1, d1, c1⟩, hp⟩ := hc
  have hp' : p ∈ X.pn ++ pins := List.mem_append_left _ hp
  have P1 := I.pin p hp'
  intro pins' σ' H' s' J
  have nfr : p.1 ∉ frs X.stack := fun hm => (List.mem_cons.mp (I.stkSub p.1 hm)).elim P1.2.2.1 P1.2.2.2.1
  have un : Un (frs X.stack) fp H3 H' s3.heap s'.heap := J.base
  exact ⟨p.1, hh, p.2, v1, un.keep p.1 p.2 (k3 _ _ P1.1) (h3 _ (Heap.lt_size P1.1) P1.2.1) nfr (fun hm => (hf _ hm).2.2.2.2.2 p hp' rfl), d1, c1⟩
theorem lcHot {pins : List (Addr × Obj)} {s : Shared} {σ : L2.St} {H : Hp} {Q : VK} {elt tg iter : Expr} {ifs : List Expr} {scope : Scope} {own : List (Str × Nat)} {pos pos' : Pos} {wi : TI} {g : TG} {tt : TT} {te : TE} {use : Option (Value → Sem Unit)} {Qf : Value → Shared → Prop}
    (hc : L2H.HotC X) (hN : X.N.Nodup) (I : Inv X pins σ H s) (hi : PIQ X tg iter wi) (ok : BlkOk X.N X.env.scope scope own)
    (hg : ∀ (s : Shared) (H : Hp) (C : Addr) (cl : List (Str × Addr)) (fp : List Addr), HotI (X.blk s H scope (compEnvC scope cl C X.env) fp) → L2.PG (X.blk s H scope (compEnvC scope cl C X.env) fp) tg g) (ht : ∀ (s : Shared) (H : Hp) (C : Addr) (cl : List (Str × Addr)) (fp : List Addr), PTs (X.blk s H scope (compEnvC scope cl C X.env) fp) ifs tt)
    (he : ∀ (s : Shared) (H : Hp) (C : Addr) (cl : List (Str × Addr)) (fp : List Addr), PE (X.blk s H scope (compEnvC scope cl C X.env) fp) elt te) (hs : ∀ x, foldedSetIterable iter X.env x = pure x)
    (h : tLc wi g tt te (own.map (·.2)) σ H Q)
    (hRR : ∀ D C s' m H', Inv X pins σ H' s' → Q (.ref D) H' → s'.heap.Ns C m → FpOk X pins H' C → compPost (model X.prog X.w) X.A X.xe use Qf (.ref D) C (.ok .next) s') :
    wpAny (model X.prog X.w) X.A (comprehension (.ListComp elt [⟨tg, iter, ifs, 0⟩] scope pos) scope X.env pos' (newList []) false (eval iter X.env) use) Qf X.xe s := by
  have hfree : ∀ y ∈ scope.names, y.2 = .free → ∃ c, X.env.cells.lookup y.1 = some c := fun y hy e =>
    (ok.free y hy e).elim (fun k => I.ok.has _ (.inl k)) (fun k => I.ok.has _ (.inr k))
  refine wpAny_comprehension_free (use := use) rfl hs (closure_ok hfree) ok.kind (fun y hy e => by rw [ok.uniq y hy, e])
    (thn (hi.run pins s σ H _ I h) fun xv s1 hx => thn hx fun itv s2 h2 => ?_)
  obtain ⟨it, fp, tn, J, H2, e, I2, T, st2, f2, q⟩ := h2
  subst e
  refine wpAny_newObj_type (newEnv_comp ?_) (by show 0 ≤ sizeLine; decide)
  generalize hD : s2.heap.objs.size = D
  have hDn : H2 D = none := I2.hok.fresh (Nat.le_of_eq hD)
  obtain ⟨W, ⟨m0, w0⟩, turn⟩ := q D hDn
  generalize hs3 : ({ s2 with heap := s2.heap.push { cls := .type "list", data := .seq ([] : List Value).toArray } } : Shared) = s3
  have h3 : s3.heap = s2.heap.push { cls := .type "list", data := .seq ([] : List Value).toArray } := by rw [← hs3]
  have k3 : ∀ b o, s2.heap.get? b = some o → s3.heap.get? b = some o := fun b o e => by rw [h3]; exact Heap.get?_push_of_some _ e
  have I3 : Inv X pins σ (upd H2 D (.lst [])) s3 := by
    rw [← hs3]
    refine I2.laid (t' := s2.toks) (fun b o e => Heap.get?_push_of_some _ e) (Nat.le_of_eq hD) ⟨Nat.zero_le _, [], 0, .nil, ?_⟩
    rw [← hD]
    exact Heap.get?_push_size _ rfl
  have f3 : ∀ b ∈ fp, FpOk X pins (upd H2 D (.lst [])) b ∧ b < s3.heap.objs.size := fun b hb => by
    obtain ⟨o, eo, _⟩ := T.obj _ _ st2 b hb
    have hlt : b < s2.heap.objs.size := Heap.lt_size eo
    exact ⟨⟨(upd_ne (by rw [← hD]; exact Nat.ne_of_lt hlt)).trans (f2 b hb).1, (f2 b hb).2⟩, by rw [h3, Heap.size_push]; exact Nat.lt_succ_of_lt hlt⟩
  have st3 : tn 0 s3.heap := T.keep _ _ _ st2 fun b _ o e => k3 b o e
  have I4 := block_start I3 ok hN f3
  have hot : HotI (X.blk s3 (upd H2 D (.lst [])) scope (compEnvC scope (cellsFrom (s3.heap.objs.size + 1) scope.names (cloFrom X.env.cells scope.names [])) s3.heap.objs.size X.env) fp) :=
    hotI_blk hc I2 (fun b hb => (f3 b hb).1) (fun b hb n => (upd_ne (by rw [← hD]; exact Nat.ne_of_lt hb)).trans n) k3
  have pg := hg s3 (upd H2 D (.lst [])) s3.heap.objs.size (cellsFrom (s3.heap.objs.size + 1) scope.names (cloFrom X.env.cells scope.names [])) fp hot
  have pt := ht s3 (upd H2 D (.lst [])) s3.heap.objs.size (cellsFrom (s3.heap.objs.size + 1) scope.names (cloFrom X.env.cells scope.names [])) fp
  have pe := he s3 (upd H2 D (.lst [])) s3.heap.objs.size (cellsFrom (s3.heap.objs.size + 1) scope.names (cloFrom X.env.cells scope.names [])) fp
  show codeAny _ _ (.compStart (.ListComp elt [⟨tg, iter, ifs, 0⟩] scope pos) 0 (.ref it) (.ref D) (compEnvC scope (cellsFrom (s3.heap.objs.size + 1) scope.names (cloFrom X.env.cells scope.names [])) s3.heap.objs.size X.env)) (compPost (model X.prog X.w) X.A X.xe use Qf (.ref D) s3.heap.objs.size) { s3 with heap := pushCells (s3.heap.push { cls := .type "dict", data := .dict #[] }) scope.names }
  have nfp : ∀ b ∈ fp, (upd H2 D (.lst [])) b = none := fun b hb => (f3 b hb).1.1
  generalize hce : compEnvC scope (cellsFrom (s3.heap.objs.size + 1) scope.names (cloFrom X.env.cells scope.names [])) s3.heap.objs.size X.env = ce at I4 pg pt pe hot ⊢
  have cL : ce.locals = s3.heap.objs.size := by subst hce; rfl
  generalize hH3 : upd H2 D (.lst []) = H3 at I3 I4 pg pt pe hot w0 nfp f3
  generalize hs4 : ({ s3 with heap := pushCells (s3.heap.push { cls := .type "dict", data := .dict #[] }) scope.names } : Shared) = s4 at I4 ⊢
  have st4 : tn 0 s4.heap := T.keep _ _ _ st3 fun b _ o e => by rw [← hs4]; exact pushCells_keeps _ _ _ _ (Heap.get?_push_of_some _ e)
  have stat : ∀ {σ' : L2.St} {H' : Hp} {s' : Shared}, Inv (X.blk s3 H3 scope ce fp) [] σ' H' s' → (∀ b ∈ fp, H' b = none) → ∀ b ∈ fp, FpOk (X.blk s3 H3 scope ce fp) [] H' b := fun {σ' H' s'} I' hn b hb =>
    ⟨hn b hb, (I'.ok.exf b hb).1, I'.ok.exfs b hb, .inl hb, fun x c e => (I'.ok.exf b hb).2 x c e, fun p hp => absurd (show p ∈ ([] : List (Addr × Obj)) ++ [] from hp) (by simp)⟩
  have loop : codeAny (model X.prog X.w) X.A (.compLoop (.ListComp elt [⟨tg, iter, ifs, 0⟩] scope pos) 0 (.ref it) (.ref D) ce) (compPost (model X.prog X.w) X.A X.xe use Qf (.ref D) s3.heap.objs.size) s4 := by
    refine compLoop_any (fun n s' => ∃ i H', Inv (X.blk s3 H3 scope ce fp) [] (wipe σ (own.map (·.2))) H' s' ∧ tn i s'.heap ∧ (∀ b ∈ fp, H' b = none) ∧ W i n H') ?_ m0 ⟨0, H3, I4, st4, nfp, w0⟩
    rintro n s5 ⟨i, H5, I5, st5, n5, w5⟩
    rcases turn i n H5 w5 with ⟨stop, qq⟩ | ⟨go, Nx, hNx, step⟩
    · refine thnF (T.done (X.blk s3 H3 scope ce fp) rfl rfl rfl hot i [] s5 _ H5 (fun _ _ => False) I5 (stat I5 n5) st5 stop) fun r s6 ⟨hr, I6⟩ => ?_
      subst hr
      have I7 : Inv X pins σ H5 s6 := I3.call' (ch := fp) I6.os I6.base I6.hok I6.bare fun b hb => ⟨(f3 b hb).1.2.2.2.1, (f3 b hb).1.2.1, (f3 b hb).1.2.2.2.2.1, (f3 b hb).1.2.2.2.2.2⟩
      have nC : H5 s3.heap.objs.size = none := cL ▸ (show H5 ce.locals = none from I6.free)
      obtain ⟨m, hn, _⟩ := I6.loc
      have hn : s6.heap.Ns s3.heap.objs.size m := cL ▸ (show s6.heap.Ns ce.locals m from hn)
      exact hRR D s3.heap.objs.size s6 m H5 I7 qq hn (I3.fpOk (Nat.le_refl _) nC)
    · refine thnF (T.item (X.blk s3 H3 scope ce fp) rfl rfl rfl i [] s5 _ H5 (fun _ _ => False) I5 (stat I5 n5) st5 go) fun r s6 ⟨u, hr, h6⟩ => ?_
      subst hr
      refine thnF h6 fun _ s7 ⟨x, H7, I7, r7, y7, st7, n7⟩ => ?_
      refine thnF (pg.run _ s7 _ H7 x u _ (I7.pinned (stat I7 n7) (T.obj _ _ st7)) r7 (step x H7 y7)) fun _ s8 ⟨σ8, H8, I8, hw8, q8⟩ => ?_
      refine thnF (pt.run _ s8 σ8 H8 _ I8 q8) fun b s9 ⟨H9, I9, q9⟩ => ?_
      have fin : ∀ {s' : Shared} {H' : Hp}, Inv (X.blk s3 H3 scope ce fp) ([] ++ pinsAt fp s7.heap) σ8 H' s' → Nx H' → ∃ m, m < n ∧ ∃ i H', Inv (X.blk s3 H3 scope ce fp) [] (wipe σ (own.map (·.2))) H' s' ∧ tn i s'.heap ∧ (∀ b ∈ fp, H' b = none) ∧ W i m H' := fun {s' H'} I' nx => by
        obtain ⟨m', hm, w'⟩ := hNx H' nx
        have pin' : ∀ b ∈ fp, ∀ o, s7.heap.get? b = some o → s'.heap.get? b = some o ∧ H' b = none := fun b hb o e =>
          let z := I'.pin (b, o) (List.mem_append_right _ (List.mem_append_right _ (mem_pinsAt hb e)))
          ⟨z.1, z.2.1⟩
        have hl : (wipe σ (own.map (·.2))).length = σ8.length := by rw [← hw8, wipe_length]
        refine ⟨m', hm, i + 1, H', (I'.unpinned (pins := [])).weak hl (fun j v e => ?_), T.keep _ _ _ st7 fun b hb o e => (pin' b hb o e).1, fun b hb => ?_, w'⟩
        · rw [← hw8] at e
          exact (wipe_some e).1
        · obtain ⟨o, e, _⟩ := T.obj _ _ st7 b hb
          exact (pin' b hb o e).2
      cases b with
      | false =>
        simp only [Bool.false_eq_true, if_false] at q9 ⊢
        exact fin I9 q9
      | true =>
        simp only [if_true] at q9 ⊢
        exact thnF (pe.run _ s9 σ8 H9 _ I9 q9) fun z s10 ⟨yv, H10, I10, r10, acc, hD10, hz10, nx⟩ => app_ok (X := X.blk s3 H3 scope ce fp) I10 hD10 hz10 r10 fun s11 I11 => fin I11 nx
  exact codeAny_compStart_list loop (T.self X.A 0 _ _ _ st4 loop)
/-- as a value -/
theorem pe_lcHot {elt tg iter : Expr} {ifs : List Expr} {scope : Scope} {own : List (Str × Nat)} {pos : Pos} {wi : TI} {g : TG} {tt : TT} {te : TE} (hc : L2H.HotC X) (hN : X.N.Nodup) (hi : PIQ X tg iter wi) (ok : BlkOk X.N X.env.scope scope own)
    (hg : ∀ (s : Shared) (H : Hp) (C : Addr) (cl : List (Str × Addr)) (fp : List Addr), HotI (X.blk s H scope (compEnvC scope cl C X.env) fp) → L2.PG (X.blk s H scope (compEnvC scope cl C X.env) fp) tg g) (ht : ∀ (s : Shared) (H : Hp) (C : Addr) (cl : List (Str × Addr)) (fp : List Addr), PTs (X.blk s H scope (compEnvC scope cl C X.env) fp) ifs tt)
    (he : ∀ (s : Shared) (H : Hp) (C : Addr) (cl : List (Str × Addr)) (fp : List Addr), PE (X.blk s H scope (compEnvC scope cl C X.env) fp) elt te) (hs : ∀ x, foldedSetIterable iter X.env x = pure x := by intro _; rfl) :
    PE X (.ListComp elt [⟨tg, iter, ifs, 0⟩] scope pos) (tLc wi g tt te (own.map (·.2))) := by
  refine ⟨fun pins s σ H Q I h => ?_⟩
  rw [eval_ListComp]
  refine lcHot hc hN I hi ok hg ht he hs h fun D C s' m H' I' q hn f => ⟨m, hn, fun h'' sb => ?_⟩
  obtain ⟨f0, f1, f2, f3, f4, f5⟩ := f
  exact ⟨.ref D, H', I'.turned (t' := s'.toks) (fun b o hb e => (sb.2 b hb).trans e) f0 f1 f3 f4 f5, rfl, q⟩
end
end Q
set_option Elab.async false
set_option linter.all false
set_option maxRecDepth 100000
set_option maxHeartbeats 4000000
namespace Q
open PySem PySem.Spec PyProof.Rows L2
def splitD : D → D → Option D
  | .str a, .str b => if (b.length == 0) = false ∧ a.length + 2 ≤ sizeLine then some (.lst ((Txt.split a b).map .str)) else none
  | _, _ => none
def strsD : List D → Option (List Str)
  | [] => some []
  | .str x :: ds => (strsD ds).map (x :: ·)
  | _ :: _ => none
def joinL (a : Str) (ds : List D) : Option D := (strsD ds).bind fun ys => if (ys.map (·.length)).sum + ys.length * a.length ≤ 16777216 then some (.str (Txt.join a ys)) else none
def joinD : D → D → Option D
  | .str a, .lst ds => joinL a ds
  | .str a, .tup ds => joinL a ds
  | _, _ => none
theorem repA_strs {T : Tb} {lam : List Addr} {G : Hp} : ∀ ys : List Str, RepA T lam G (ys.map .str) (ys.map V.str)
  | [] => .nil
  | y :: ys => .cons (.str y) (repA_strs ys)
theorem strs_rep {T : Tb} {lam : List Addr} {G : Hp} : ∀ {ds : List D} {vs : List V} {ys : List Str}, strsD ds = some ys → RepA T lam G ds vs → vs = ys.map V.str
  | [], _, _, h, .nil => by cases h; rfl
  | .str x :: ds, _, _, h, .cons r rr => by
    simp only [strsD, Option.map_eq_some_iff] at h
    obtain ⟨ys, h1, rfl⟩ := h
    cases r
    rw [strs_rep h1 rr]
    rfl
  | .non :: _, _, _, h, _ => by cases h
  | .bl _ :: _, _, _, h, _ => by cases h
  | .int _ :: _, _, _, h, _ => by cases h
  | .lst _ :: _, _, _, h, _ => by cases h
  | .tup _ :: _, _, _, h, _ => by cases h
  | .dct _ _ _ :: _, _, _, h, _ => by cases h
  | .fn _ :: _, _, _, h, _ => by cases h
  | .loc _ :: _, _, _, h, _ => by cases h
def stK (h : D → D → Option D) (g : EF) : List SV → D → M D := fun sd x => match x with
  | .str a => g sd >>= fun y => M.lift (h (.str a) y)
  | _ => M.bad
/-- a text's method of one argument -/
def stE (h : D → D → Option D) (f g : EF) : EF := fun sd => f sd >>= stK h g sd
section
variable {X : Cx} {T : Tb} {W : WX}
theorem xsplit {o a : Expr} {f g : EF} {apos pos : Pos} (ho : PE X o (tM T W f)) (ha : PE X a (tM T W g)) (hs : starEach [a] X.env = [(false, eval a X.env)] := by rfl) (hbase : attributeBase o "split" X.env (eval o X.env) = eval o X.env := by rfl) (hline : (apos.endLine == pos.line) = true := by rfl) :
    PE X (.Call (.Attribute o "split" apos) [a] [] pos) (tM T W (stE splitD f g)) := by
  refine PE.imp (pe_split ho ha hs hbase hline) fun σ H Q q => ?_
  refine tR_bnd (f := f) (k := stK splitD g) q fun sd S1 d v w1 d1 s1 r1 h1 => ?_
  cases d with
  | str x =>
    cases r1
    refine ⟨⟨x, rfl⟩, ⟨sd, S1, w1, rfl, d1, s1, PG.bnd (m := g sd) (k := fun y => M.lift (splitD (.str x) y)) h1 fun e S2 u w2 x2 d2 r2 h2 => ?_⟩⟩
    obtain ⟨r, hr, q⟩ := h2.fin d2
    cases e <;> simp only [splitD, reduceCtorEq, Option.ite_none_right_eq_some, Option.some.injEq] at hr
    rename_i b
    obtain ⟨⟨c1, c2⟩, rfl⟩ := hr
    cases r2
    refine ⟨x, b, rfl, rfl, c1, c2, fun p hp => ?_⟩
    obtain ⟨al, rr⟩ := new_lst d2 hp (repA_strs (T := T) (lam := w2.lam) (G := w2.G) (Txt.split x b))
    exact q _ _ al rr
  | _ => exact h1.elim
theorem joinL_of {a : Str} {ds : List D} {r : D} (h : joinL a ds = some r) : ∃ ys, strsD ds = some ys ∧ (ys.map (·.length)).sum + ys.length * a.length ≤ 16777216 ∧ r = .str (Txt.join a ys) := by
  unfold joinL at h
  simp only [Option.bind_eq_some_iff, Option.ite_none_right_eq_some, Option.some.injEq] at h
  obtain ⟨ys, h1, h2, h3⟩ := h
  exact ⟨ys, h1, h2, h3.symm⟩
theorem xjoin {o a : Expr} {f g : EF} {apos pos : Pos} (ho : PE X o (tM T W f)) (ha : PE X a (tM T W g)) (k : Lk T X := by exact ⟨rfl, rfl, rfl⟩) (hs : starEach [a] X.env = [(false, eval a X.env)] := by rfl) (hbase : attributeBase o "join" X.env (eval o X.env) = eval o X.env := by rfl) (hline : (apos.endLine == pos.line) = true := by rfl) :
    PE X (.Call (.Attribute o "join" apos) [a] [] pos) (tM T W (stE joinD f g)) := by
  refine PE.imp (pe_join ho ha hs hbase hline) fun σ H Q q => ?_
  refine tR_bnd (f := f) (k := stK joinD g) q fun sd S1 d v w1 d1 s1 r1 h1 => ?_
  cases d with
  | str x =>
    cases r1
    refine ⟨⟨x, rfl⟩, ⟨sd, S1, w1, rfl, d1, s1, PG.bnd (m := g sd) (k := fun y => M.lift (joinD (.str x) y)) h1 fun e S2 u w2 x2 d2 r2 h2 => ?_⟩⟩
    obtain ⟨r, hr, q⟩ := h2.fin d2
    cases e <;> simp only [joinD, reduceCtorEq] at hr
    · obtain ⟨ys, e1, e2, rfl⟩ := joinL_of hr
      cases r2 with
      | lst g1 g2 => exact ⟨x, _, ys, rfl, rfl, .inl (.inl (by rw [← strs_rep e1 g2]; exact same_rd d2.sub g1)), e2, q _ w2 (.refl d2) (.str _)⟩
    · obtain ⟨ys, e1, e2, rfl⟩ := joinL_of hr
      cases r2 with
      | tup g1 g2 => exact ⟨x, _, ys, rfl, rfl, .inr (by rw [k.K, ← strs_rep e1 g2]; exact same_seqT d2.sub g1), e2, q _ w2 (.refl d2) (.str _)⟩
  | _ => exact h1.elim
def isxE (i : Nat) (a : Addr) (b : Bool) : EF := fun sd => match sd[i]? with
  | some (.raw (.ref c)) => if c = a then pure (.bl b) else M.bad
  | _ => M.bad
/-- isinstance(e, C): e stands in slot i, it is the exception at p, an instance of D -/
theorem xisx {i : Nat} {x t : Str} {c : V} {cv : Value} {b : Bool} {D : Addr} {pe : Addr × Obj} {q p2 p3 pos : Pos} (hm : X.mg "isinstance" = none) (hpn : pe ∈ X.pn) (C : ExcC X.K D) (hz : Zc (.ref D) none pe.2) (hf : ∃ vs, pe.2.data = .fields vs)
    (ht : PE X (.Name t p3) (tC c)) (hcv : ∀ u, RelV c u → u = cv) (hk : PySem.W.kitOne X.K (.ref D) cv = some b) (hN : X.N[i]? = some x := by rfl) (hv : Vis X.env.scope x := by first | exact .inl rfl | exact .inr (.inl rfl) | exact .inr (.inr rfl)) (hd : (x == ("__debug__" : Str)) = false := by decide) (hcd : (x == ("__classdict__" : Str)) = false := by decide)
    (hg : Gl X "isinstance" := by rfl) (he : starEach [.Name x p2, .Name t p3] X.env = (false, eval (.Name x p2) X.env) :: starEach [.Name t p3] X.env := by rfl) (he2 : starEach [.Name t p3] X.env = (false, eval (.Name t p3) X.env) :: starEach [] X.env := by rfl) (hpl : (backTo pos (starEach [.Name t p3] X.env)).any (·.1) = false := by rfl) :
    PE X (.Call (.Name "isinstance" q) [.Name x p2, .Name t p3] [] pos) (tM T W (isxE i pe.1 b)) := by
  have call : CallR X (.builtin "isinstance") (rIsE X.K D pe.1) := by
    intro pins s σ H xs us Q I r h
    obtain ⟨c, cv, b, rfl, hcv, e, q⟩ := h
    cases r with
    | cons rx rr =>
      cases rr with
      | cons rt rr =>
        cases rr
        cases rx
        have ec := hcv _ rt
        subst ec
        obtain ⟨hget, _⟩ := I.pin pe (List.mem_append_left _ hpn)
        obtain ⟨vs, hv⟩ := hf
        have J : PySem.W.InstAt s.heap pe.1 pe.2 D none := by
          obtain ⟨a, oc, od, oda, osl⟩ := pe
          obtain ⟨h1, h2⟩ := hz
          dsimp only at h1 h2 hv
          subst h1 h2 hv
          exact ⟨hget, rfl, rfl, trivial⟩
        exact PySem.W.kia_one (PySem.W.handS_kitx_exc C.hg C.hk C.hs C.hd C.ha C.hn C.ht C.hm) I.kIn J e (fun z => nomatch z) fun tk => ⟨.bl b, H, I.kept (t' := tk) fun _ _ z => z, rfl, q⟩
  refine PE.imp (pe_callB (id := "isinstance") call hg hm (by decide +kernel) (pa_cons (pe_var (i := i) hN hv hd hcd) (pa_cons ht pa_nil he2) he) (by decide) (by decide) he hpl) fun σ H Q h => ?_
  obtain ⟨sd, S, w, e1, d1, s1, h⟩ := h
  unfold isxE at h
  cases hsd : sd[i]? with
  | none => rw [hsd] at h; exact h.elim
  | some sv =>
    rw [hsd] at h
    match sv, h, hsd with
    | .raw (.ref c'), h, hsd =>
      have h : PG T (fun c d H' => W c d σ H') (RepV T) Q w ((if c' = pe.1 then pure (.bl b) else M.bad : M _root_.Q.D) S) := h
      by_cases hc : c' = pe.1
      · rw [if_pos hc] at h
        obtain ⟨ov, ho, hov⟩ := s1.get hsd
        have hov : ov = some (V.ref c') := hov
        exact ⟨.ref c', ho.trans (congrArg some hov), c, cv, b, by rw [hc], hcv, hk, by subst e1; exact h _ w (.refl w) d1 (.bl b)⟩
      · rw [if_neg hc] at h
        exact h.elim
    | .un, h, _ => exact h.elim
    | .val _, h, _ => exact h.elim
    | .own _, h, _ => exact h.elim
    | .raw .non, h, _ => exact h.elim
    | .raw (.bl _), h, _ => exact h.elim
    | .raw (.int _), h, _ => exact h.elim
    | .raw (.str _), h, _ => exact h.elim
    | .raw (.byt _), h, _ => exact h.elim
    | .raw (.flt _), h, _ => exact h.elim
    | .raw (.ty _), h, _ => exact h.elim
end
end Q
set_option Elab.async false
set_option linter.all false
set_option maxRecDepth 100000
set_option maxHeartbeats 4000000
namespace Q
open PySem PySem.Spec PyProof.Rows L2
section
variable {X : Cx} {T : Tb} {W : WX}
theorem PIQ.imp {tg e : Expr} {t t' : TI} (h : PIQ X tg e t) (hi : ∀ σ H Q, t' σ H Q → t σ H Q) : PIQ X tg e t' := ⟨fun pins s σ H Q I q => h.run pins s σ H Q I (hi σ H Q q)⟩
def zipLM : List D → M (List D)
  | [.lst xs, .lst ys] => pure (zipD xs ys)
  | _ => M.bad
def zipLI (h : AF) : AF := fun sd => h sd >>= zipLM
theorem izipH {a b : Expr} {p pos tpos : Pos} {elts : List Expr} {kk : Nat} {h : AF} (hm : X.mg "zip" = none) (ha : PA X [a, b] (tML T W h)) (hg : Gl X "zip" := by rfl) (hs : starEach [a, b] X.env = (false, eval a X.env) :: starEach [b] X.env := by rfl) (hpl : (backTo pos (starEach [b] X.env)).any (·.1) = false := by rfl) (k : Lk T X := by exact ⟨rfl, rfl, rfl⟩) :
    PIQ X (.Tuple elts kk tpos) (.Call (.Name "zip" p) [a, b] [] pos) (tMI T W (zipLI h)) := by
  refine PIQ.imp (piQ_zip hg hm ha hs hpl) fun σ H Q q => ?_
  refine tR_bnd (f := h) (k := fun _ ds => zipLM ds) q fun sd S1 ds vs w1 d1 s1 r1 h1 => ?_
  match ds, h1, r1 with
  | [.lst xs, .lst ys], h1, .cons (.lst a1 a2) (.cons (.lst b1 b2) .nil) => exact ⟨_, _, _, _, rfl, .inl (same_rd d1.sub a1), .inl (same_rd d1.sub b1), h1 _ w1 (.refl w1) d1 (walk_zp a1 a2 b1 b2)⟩
theorem gTH {es : List Expr} {kk : Nat} {pos : Pos} {ts : List Tg} (hc : HotI X) (h : L2.PGs X es (gDs T ts)) (l : Lk T X := by exact ⟨rfl, rfl, rfl⟩) (hn : (assignEach es X.env).length = ts.length := by rfl) (hst : (assignEach es X.env).findIdx? (·.1) = none := by rfl) : L2.PG X (.Tuple es kk pos) (gD T (.tp ts)) :=
  LPG.imp (pg_tupHot hc h hn hst) fun v σ H K h => by
    obtain ⟨w, S, sd, d, sd', e1, d1, s1, r, ha, k⟩ := h
    cases r <;> simp only [asgT, reduceCtorEq, Option.ite_none_right_eq_some] at ha
    rename_i a vs ds q r
    obtain ⟨hl, ha⟩ := ha
    exact ⟨a, vs, rfl, by rw [← e1, l.K]; exact same_seqT d1.sub q, by rw [← r.length]; exact hl, w, S, sd, ds, sd', e1, d1, s1, r, hl, ha, k⟩
theorem compH_ {elt tg iter : Expr} {ifs : List Expr} {scope : Scope} {own : List (Str × Nat)} {vs : List Nat} {pos : Pos} {it : AF} {t : Tg} {c : TF} {e : EF}
    (hN : X.N.Nodup) (hh : L2H.HotC X) (ok : BlkOk X.N X.env.scope scope own) (hi : PIQ X tg iter (tMI T W it))
    (hg : ∀ (s : Shared) (H : Hp) (C : Addr) (cl : List (Str × Addr)) (fp : List Addr), HotI (X.blk s H scope (compEnvC scope cl C X.env) fp) → L2.PG (X.blk s H scope (compEnvC scope cl C X.env) fp) tg (gD T t)) (ht : ∀ (s : Shared) (H : Hp) (C : Addr) (cl : List (Str × Addr)) (fp : List Addr), PTs (X.blk s H scope (compEnvC scope cl C X.env) fp) ifs (tMT T W0 c))
    (he : ∀ (s : Shared) (H : Hp) (C : Addr) (cl : List (Str × Addr)) (fp : List Addr), PE (X.blk s H scope (compEnvC scope cl C X.env) fp) elt (tM T W0 e)) (hs : ∀ x, foldedSetIterable iter X.env x = pure x := by intro _; rfl) (hsl : ∀ i ∈ t.slots, i ∈ vs := by decide) (hvs : own.map (·.2) = vs := by rfl) :
    PE X (.ListComp elt [⟨tg, iter, ifs, 0⟩] scope pos) (tRF T W (compF it t vs c e)) := by
  subst hvs
  exact PE.imp (pe_lcHot hh hN hi ok hg ht he hs) fun _ _ _ q => comp_read hsl q
end
end Q
set_option Elab.async false
set_option linter.all false
set_option maxRecDepth 100000
set_option maxHeartbeats 4000000
namespace Q
open PySem PySem.Spec PyProof.Rows L2
open L2H (RoomH Hot1 PinOk HotC cxH)
/-- a def's promise where the exception at p is handled -/
structure FnX (P : Program) (w : World) (K : PySem.W.Frag) (mg : Str → Option Value) (base : Heap) (CX : CXT) (k : Nat) (f : Addr) (fd : FuncData) (ps : List Str) (sp : Addr × Obj → Sp) : Prop where
  len : ∀ p vs H Q E, sp p vs H Q E → vs.length = ps.length
  run : ∀ (A : Around) (outer : List Env) (s : Shared) (H : Hp) (args : Args) (us : List Value) (vs : List V) (Q : VK) (E : XK) (p : Addr × Obj), RoomH k A → Hot1 A p → PinOk outer H s p → Env0 P w K mg base A outer s H → BindsTo s fd args (ps.zip us) → Vals vs us → sp p vs H Q E →
    codeAny (model P w) A (.call (.ref f) args) (CR CX outer P w H s Q E) s
theorem fnX_of {CX : CXT} {P : Program} {w : World} {K : PySem.W.Frag} {mg : Str → Option Value} {base : Heap} {k : Nat} {f : Addr} {name qual : Str} {params : Arguments} {body : List Stmt} {scope : Scope} {dV kV doc pm cdv ct oc : Value} {an od : Option Addr}
    {osl : Array (Option Value)} {N ps : List Str} {sp : Addr × Obj → Sp} (lk : K.lookup f = some ⟨oc, od, .func (PySem.W.fnOf name qual params body scope dV kV doc pm an cdv ct), osl⟩) (hcd : PySem.W.codeIn K cdv qual = true) (S : FnScope N ps scope)
    (len : ∀ p vs H Q E, sp p vs H Q E → vs.length = ps.length)
    (hbody : ∀ (A : Around) (outer : List Env) (s : Shared) (H : Hp) (vs : List V) (Q : VK) (E : XK) (p : Addr × Obj), Hot1 A p → RoomH k (A.deeper (envOfC qual scope s.heap.objs.size f cdv)) → sp p vs H Q E →
      ∃ t, PSs (cxH CX P w K mg base N qual scope f cdv A outer s H E p) body t ∧ t { nx := fun _ H' => Q .non H', rt := Q } (L2.start N vs) H) :
    FnX P w K mg base CX (k + 1) f (PySem.W.fnOf name qual params body scope dV kV doc pm an cdv ct) ps sp := by
  refine ⟨len, fun A outer s H args us vs Q E p hr hot hpin e0 hb r hsp => ?_⟩
  have KX : K.In s.heap := e0.mod.kin.keeps fun b o e => (e0.bs b o e).1
  have lim : s.heap.NoLimit := e0.mod.nolimit.keeps fun b o e => (e0.bs b o e).1
  have hkind : ∀ y ∈ ps.zip us, scope.names.lookup y.1 = some .local ∨ (scope.names.lookup y.1 = some .cell ∧ ((cellsFrom (s.heap.objs.size + 1) scope.names []).lookup y.1).isSome = true) := fun ⟨n, v⟩ hy =>
    (S.par n (List.of_mem_zip hy).1).imp id fun q => ⟨q, PySem.W.cellsFrom_some _ _ _ (.inl q)⟩
  refine codeAny_call_function hr.depth (KX _ _ lk) rfl S.co S.gen rfl (PySem.W.codeRec_of KX hcd) (hb _ _ _ _ (wpAny_newFunctionEnv_cells S.kind hkind fun env he s1 x => ?_))
  subst he
  refine ⟨lim.keeps x.toInCall.keep, codeAny_func ?_⟩
  obtain ⟨t, ht, hq⟩ := hbody A outer s H vs Q E p hot (hr.deeper _) hsp
  refine wpAny_mono (ht.run [] s1 (L2.start N vs) H _ (L2H.inv_startH S hpin e0 (len _ _ _ _ _ hsp) r x) hq) (fun fl s' hs => ?_) fun e s' hs => hs
  have fin : ∀ {σ' : L2.St} {H' : Hp} {v : V} {u : Value}, Inv (cxH CX P w K mg base N qual scope f cdv A outer s H E p) [] σ' H' s' → RelV v u → Q v H' → CE outer P w H s Q u s' :=
    fun {σ' H' v u} J rv q => ⟨v, H', J.os, J.bare, J.base, J.hok, rv, q⟩
  cases fl with
  | ret u => obtain ⟨v, σ', H', J, rv, q⟩ := hs; exact fin J rv q
  | next => obtain ⟨σ', H', J, q⟩ := hs; exact fin (v := V.non) (u := Value.none) J rfl q
  | brk => obtain ⟨_, _, _, q⟩ := hs; exact False.elim q
  | cont => obtain ⟨_, _, _, q⟩ := hs; exact False.elim q
section
variable {X : Cx} {CX : CXT} {k : Nat} {f : Addr} {fd : FuncData} {ps : List Str} {sp : Addr × Obj → Sp} {E : L2.St → XK} {x : Str} {q pos : Pos} {e : Expr} {es : List Expr} {t : TA}
theorem pe_callX (p : Addr × Obj) (F : FnX X.prog X.w X.K X.mg X.base CX k f fd ps sp) (hr : RoomH k X.A) (hot : Hot1 X.A p) (hp : p ∈ X.pn) (hg : Gl X x) (hm : X.mg x = some (.ref f)) (hk : PySem.W.keepIn X.K (.ref f) = true) (hb : Binds X.K fd ps []) (hx : ∀ σ, PassesAt CX X σ (E σ))
    (ha : PA X (e :: es) t) (hdb : (x == ("__debug__" : Str)) = false := by decide) (he : starEach (e :: es) X.env = (false, eval e X.env) :: starEach es X.env := by rfl) (hpl : (backTo pos (starEach es X.env)).any (·.1) = false := by rfl) :
    PE X (.Call (.Name x q) (e :: es) [] pos) (fun σ H Q => t σ H fun vs H1 => sp p vs H1 Q (E σ)) := by
  refine ⟨fun pins s σ H Q I h => ?_⟩
  refine wpAny_Call_Name_kw (ld_glob I hg hm ?_ hdb)
  refine PySem.W.callWith_K (h₀ := X.base) I.ok.mod.kin hk (thn (ha.run pos pins s σ H _ I h) fun us s1 ⟨vs, H1, I1, r, q⟩ => ⟨I1.kIn, ?_⟩) he hpl
  have b := hb s1 us I1.kIn (by rw [List.append_nil, ← r.length]; exact F.len _ _ _ _ _ q)
  rw [List.append_nil] at b
  have P1 := I1.pin p (List.mem_append_left _ hp)
  have hpin : PinOk X.stack H1 s1 p := ⟨P1.1, P1.2.1, fun hm => (List.mem_cons.mp (I1.stkSub p.1 hm)).elim P1.2.2.1 P1.2.2.2.1, P1.2.2.2.2⟩
  refine wpAny_call (codeAny_mono (F.run X.A X.stack s1 H1 ⟨us, []⟩ us vs Q (E σ) p hr hot hpin I1.env0 b r q) fun r s' hq => ?_)
  cases r with
  | error e => exact hx σ pins H1 s1 e s' I1 hq
  | ok fl =>
    cases fl with
    | ret u => exact I1.after hq
    | next => exact False.elim hq
    | brk => exact False.elim hq
    | cont => exact False.elim hq
end
end Q
set_option Elab.async false
set_option linter.all false
set_option maxRecDepth 100000
set_option maxHeartbeats 4000000
namespace Q
open PySem PySem.Spec PyProof.Rows L2
open L2H (RoomH Hot1 PinOk HotC cxH)
/-- what the class D answers to isinstance(e, x) -/
def KinN (T : Tb) (mg : Str → Option Value) (D : Addr) (x : Str) (b : Bool) : Prop :=
  (∃ C, mg x = some (.ref C) ∧ PySem.W.kitOne T.K (.ref D) (.ref C) = some b) ∨ (∃ n, mg x = none ∧ bootBuiltins x = some (.type n) ∧ x ≠ "__name__" ∧ PySem.W.kitOne T.K (.ref D) (.type n) = some b)
structure KinC (T : Tb) (mg : Str → Option Value) (names : List Str) (D : Addr) (bt : Nat → Bool) : Prop where
  exc : ExcC T.K D
  nm : ∀ (j : Nat) (x : Str), names[j]? = some x → KinN T mg D x (bt j)
def sdK (n : Nat) (a : Addr) : List SV := .raw (.ref a) :: List.replicate (n - 1) .un
def runK (n : Nat) (F : Addr → SF) (a : Addr) : M D := fun S => match F a (sdK n a) S with
  | .nx _ S' => .ok .non S'
  | .rt d S' => .ok d S'
  | .ex x _ S' => .exc x S'
  | .bad => .bad
/-- what the run of such a def wants -/
def spK (T : Tb) (D : Addr) (g : Addr → M _root_.Q.D) (p : Addr × Obj) : Sp := fun vs H Q E => Zc (.ref D) none p.2 ∧ (∃ v, p.2.data = .fields v) ∧ vs = [.ref p.1] ∧ ∃ S w, w.H = H ∧ Wd T w S ∧ PG T E (RepV T) Q w (g p.1 S)
structure FnK (T : Tb) (mg : Str → Option Value) (base : Heap) (k : Nat) (D : Addr) (x : Str) (g : Addr → M _root_.Q.D) : Prop where
  ex : ∃ a fd p, mg x = some (.ref a) ∧ PySem.W.keepIn T.K (.ref a) = true ∧ Binds T.K fd [p] [] ∧ FnX T.P T.w T.K mg base (L2N.CX T.P T.w) k a fd [p] (spK T D g)
abbrev kX (T : Tb) (mg : Str → Option Value) (base : Heap) (N : List Str) (qual : Str) (sc : Scope) (f : Addr) (cd : Value) (A : Around) (outer : List Env) (s : Shared) (H : Hp) (E : XK) (p : Addr × Obj) : Cx := cxH (L2N.CX T.P T.w) T.P T.w T.K mg base N qual sc f cd A outer s H E p
theorem rs_startK {T : Tb} {w : Wo} {a : Addr} (n : Nat) (N : List Str) (hn : N.length = n) (h1 : 1 ≤ n) : RS T w (sdK n a) (L2.start N [.ref a]) := by
  have e1 : sdK n a = .raw (.ref a) :: List.replicate (n - 1) .un := rfl
  have e2 : L2.start N [V.ref a] = some (V.ref a) :: List.replicate (N.length - 1) none := rfl
  refine ⟨by rw [e1, e2]; simp [hn], fun i sv ov k1 k2 => ?_, fun i j si sj b hij k1 k2 o1 o2 k3 k4 => ?_⟩
  · rw [e1] at k1
    rw [e2] at k2
    cases i with
    | zero => cases k1; cases k2; rfl
    | succ i =>
      rw [List.getElem?_cons_succ, List.getElem?_replicate] at k1
      split at k1
      · cases k1; trivial
      · cases k1
  · rw [e1] at k1
    cases i with
    | zero => cases k1; cases o1
    | succ i =>
      rw [List.getElem?_cons_succ, List.getElem?_replicate] at k1
      split at k1
      · cases k1; cases o1
      · cases k1
theorem own_startK {e : Wo} {σ : L2.St} {a : Addr} (n : Nat) : OwnN e (sdK n a) σ := fun i sv b k1 o1 _ => by
  have e1 : sdK n a = .raw (.ref a) :: List.replicate (n - 1) .un := rfl
  rw [e1] at k1
  cases i with
  | zero => cases k1; cases o1
  | succ i =>
    rw [List.getElem?_cons_succ, List.getElem?_replicate] at k1
    split at k1
    · cases k1; cases o1
    · cases k1
theorem kin_by {T : Tb} {mg : Str → Option Value} {base : Heap} {x p0 : Str} {st : Stmt} {N : List Str} {k n idx : Nat} {D : Addr} {F : Addr → SF} (d : DefOk T mg x st idx [p0]) (S : FnScope N [p0] (defScope st)) (hn : N.length = n) (h1 : 1 ≤ n)
    (body : ∀ (qual : Str) (a : Addr) (cdv : Value) (A : Around) (outer : List Env) (s : Shared) (H : Hp) (E : XK) (p : Addr × Obj) (e : Wo),
      RoomH k (kX T mg base N qual (defScope st) a cdv A outer s H E p).A → (kX T mg base N qual (defScope st) a cdv A outer s H E p).A.units + 65 < cLine →
      HotC (kX T mg base N qual (defScope st) a cdv A outer s H E p) → p ∈ (kX T mg base N qual (defScope st) a cdv A outer s H E p).pn → Zc (.ref D) none p.2 → (∃ v, p.2.data = .fields v) →
      N.Nodup → PSs (kX T mg base N qual (defScope st) a cdv A outer s H E p) (defBody st) (tS T e (dW E) (F p.1))) :
    FnK T mg base (k + 1) D x (runK n F) := by
  obtain ⟨qual, a, fd, Fn, hb, hf, hm⟩ := d.ex
  obtain ⟨oc, od, kV, doc, pm, an, cdv, ct, osl, rfl, lk, hcd⟩ := Fn.ex
  refine ⟨a, _, p0, hm, Fn.kp, hb, fnX_of lk hcd S (fun p vs H Q E h => by rw [h.2.2.1]; rfl) fun A outer s H vs Q E p hot hr h => ?_⟩
  obtain ⟨hz, hf, rfl, S', w, e1, d1, q⟩ := h
  have hin : p ∈ (kX T mg base N qual (defScope st) a cdv A outer s H E p).pn := List.mem_singleton.mpr rfl
  refine ⟨_, body qual a cdv A outer s H E p w hr (Nat.lt_of_le_of_lt (by show (A.deeper (envOfC qual (defScope st) s.heap.objs.size a cdv)).units + 65 ≤ _; omega) hr.un) ⟨p, hot, hin⟩ hin hz hf S.nd, sdK n p.1, S', w, e1, ⟨.refl w, d1, rs_startK n N hn h1, own_startK n⟩, ?_⟩
  unfold runK at q
  cases hF : F p.1 (sdK n p.1) S' with
  | nx sd S1 => rw [hF] at q; exact fun σ w' l s => q .non w' s.ext s.wd .non
  | rt d S1 => rw [hF] at q; exact fun v w' x d r => q v w' x d r
  | ex x sd S1 => rw [hF] at q; exact fun cls d σ w' s r => q cls d w' s.ext s.wd r
  | bad => rw [hF] at q; exact q.elim
section
variable {X : Cx} {T : Tb} {W : WX}
/-- isinstance(e, x) by the class's answers -/
theorem xisk {i : Nat} {x t : Str} {b : Bool} {D : Addr} {pe : Addr × Obj} {q p2 p3 pos : Pos} (hm : X.mg "isinstance" = none) (hpn : pe ∈ X.pn) (C : ExcC T.K D) (hz : Zc (.ref D) none pe.2) (hf : ∃ vs, pe.2.data = .fields vs) (K : KinN T X.mg D t b) (l : Lk T X := by exact ⟨rfl, rfl, rfl⟩)
    (hgt : Gl X t := by rfl) (hdt : (t == ("__debug__" : Str)) = false := by decide) (hN : X.N[i]? = some x := by rfl) (hv : Vis X.env.scope x := by first | exact .inl rfl | exact .inr (.inl rfl) | exact .inr (.inr rfl)) (hd : (x == ("__debug__" : Str)) = false := by decide) (hcd : (x == ("__classdict__" : Str)) = false := by decide)
    (hg : Gl X "isinstance" := by rfl) (he : starEach [.Name x p2, .Name t p3] X.env = (false, eval (.Name x p2) X.env) :: starEach [.Name t p3] X.env := by rfl) (he2 : starEach [.Name t p3] X.env = (false, eval (.Name t p3) X.env) :: starEach [] X.env := by rfl) (hpl : (backTo pos (starEach [.Name t p3] X.env)).any (·.1) = false := by rfl) :
    PE X (.Call (.Name "isinstance" q) [.Name x p2, .Name t p3] [] pos) (tM T W (isxE i pe.1 b)) := by
  have C' : ExcC X.K D := by rw [l.K]; exact C
  rcases K with ⟨c, h1, h2⟩ | ⟨n, h1, h2, h3, h4⟩
  · exact xisx hm hpn C' hz hf (pe_glob (v := .ref c) hgt h1 rfl hdt) (fun u r => r) (by rw [l.K]; exact h2) hN hv hd hcd hg he he2 hpl
  · exact xisx hm hpn C' hz hf (pe_bltn (v := .ty n) hgt h1 h2 rfl h3 hdt) (fun u r => r) (by rw [l.K]; exact h4) hN hv hd hcd hg he he2 hpl
end
end Q
set_option Elab.async false
set_option linter.all false
set_option maxRecDepth 100000
set_option maxHeartbeats 4000000
namespace Q
open PySem PySem.Spec PyProof.Rows L2 LamX
section
variable {X : Cx} {pins : List (Addr × Obj)} {σ : L2.St} {H : Hp} {s : Shared}
/-- the lambda is made; nothing tracked goes away -/
theorem lam_make3 {T : List (Addr × Str)} {c P : Addr} {params : Arguments} {body : Expr} {scope : Scope} {pos : Pos} {E : Value → Shared → Prop} {Q : Value → Shared → Prop} (I : Inv X pins σ H s) (TB : TabB X.base X.mg c P) (hcode : X.env.code = .ref c)
    (hm : (P, X.env.qual ++ "<lambda>") ∈ T) (hu : ∀ p ∈ T, p.1 = P → p.2 = X.env.qual ++ "<lambda>") (hT : Tabs T H) (hdef : defaultsOf params X.env = ([], [])) (hfree : ∀ y ∈ scope.names, y.2 = .free → ∃ c, X.env.cells.lookup y.1 = some c)
    (h : ∀ (f c' : Addr) (pm ctv : Value) (H1 : Hp) (s' : Shared), Inv X pins σ H1 s' → ExtN H H1 → (∀ b, H b ≠ none → H1 b ≠ none) → Tabs T H1 →
      s'.heap.get? f = some (PySem.W.kla_obj "<lambda>" (X.env.qual ++ "<lambda>") params body scope (cloFrom X.env.cells scope.names []) pm c' ctv) → H1 f = none → f ∉ frs X.stack → H1 c' = some (CodeO c' (X.env.qual ++ "<lambda>")) → Q (.ref f) s') :
    wpAny (model X.prog X.w) X.A (eval (.Lambda params body scope pos) X.env) Q E s := by
  obtain ⟨ps, hP, ht, ha⟩ := hT _ hm
  refine PySem.W.kla_eval hdef ?_
  have bP : s.heap.BuiltinsAt X.mg P := TB.bm.keeps I.bk
  have hP' : s.heap.get? P = some { cls := .none, data := .fields ps } := I.hok P _ hP
  have nofr : ∀ f, s.heap.objs.size ≤ f → f ∉ frs X.stack := fun f hf z => by
    rcases List.mem_cons.mp (I.stkSub _ z) with e | e
    · exact Nat.lt_irrefl _ (Nat.lt_of_lt_of_le (e ▸ I.lt) hf)
    · exact I.nofs hf e
  cases hc : codeAmong pos ps.toList with
  | some cv =>
    obtain ⟨c', e, hco⟩ := ha pos cv hc
    subst e
    exact PySem.W.kla_makeFunctionHit (mg := X.mg) (c := c) (P := P) (ps := ps) (closure_ok hfree) I.ok.glob (I.mod.glob.keeps I.bk) hcode (TB.code.keeps I.bk) hP' ht hc bP fun ctv h' tk hx hsz =>
      h h'.objs.size c' ((X.mg "__name__").getD .none) ctv H { s with heap := h'.push (PySem.W.kla_obj "<lambda>" (X.env.qual ++ "<lambda>") params body scope (cloFrom X.env.cells scope.names []) ((X.mg "__name__").getD .none) c' ctv), toks := tk }
        (I.kept fun b o e => Heap.get?_push_of_some _ (hx b o e)) (ExtN.refl H) (fun _ z => z) hT (Heap.get?_push_size _ rfl) (I.hok.fresh hsz) (nofr _ hsz) hco
  | none =>
    refine PySem.W.kla_makeFunction (mg := X.mg) (c := c) (P := P) (ps := ps) (closure_ok hfree) I.ok.glob (I.mod.glob.keeps I.bk) hcode (TB.code.keeps I.bk) hP' ht hc TB.gP bP fun c' ctv h' tk hx hge hlt hrec htb => ?_
    obtain ⟨c2, oc, vs, t, e2, hoc, hd, hv⟩ := hrec
    cases e2
    have hsz : s.heap.objs.size ≤ h'.objs.size := Nat.le_trans hge (Nat.le_of_lt hlt)
    have nC : H c' = none := I.hok.fresh hge
    have hE : ExtN H (upd (upd H P (.tbl (ps ++ #[rawInt pos.line, rawInt pos.col, .ref c']))) c' (CodeO c' (X.env.qual ++ "<lambda>"))) := fun b o e n => by
      rw [upd_ne (ne_of_none e nC), upd_ne (fun z => n ps (Option.some.inj (e.symm.trans (by rw [z]; exact hP))))]
      exact e
    have hth : ∀ b, H b ≠ none → upd (upd H P (.tbl (ps ++ #[rawInt pos.line, rawInt pos.col, .ref c']))) c' (CodeO c' (X.env.qual ++ "<lambda>")) b ≠ none := fun b e => by
      by_cases h1 : b = c'
      · rw [h1, upd_same]; exact fun z => by cases z
      · rw [upd_ne h1]
        by_cases h2 : b = P
        · rw [h2, upd_same]; exact fun z => by cases z
        · rw [upd_ne h2]; exact e
    have eL : (ps ++ #[rawInt pos.line, rawInt pos.col, .ref c']).toList = ps.toList ++ [rawInt pos.line, rawInt pos.col, .ref c'] := by simp
    refine h h'.objs.size c' ((X.mg "__name__").getD .none) ctv _ _ (inv_table (t' := tk) (more := #[rawInt pos.line, rawInt pos.col, .ref c']) (h' := h'.push (PySem.W.kla_obj "<lambda>" (X.env.qual ++ "<lambda>") params body scope (cloFrom X.env.cells scope.names []) ((X.mg "__name__").getD .none) c' ctv)) I hP
      (fun b o hb e => Heap.get?_push_of_some _ (hx b o hb e)) (Heap.get?_push_of_some _ htb) hge ⟨oc, vs, t, Heap.get?_push_of_some _ hoc, hd, hv⟩) hE hth (fun p hp => ?_) (Heap.get?_push_size _ rfl) ?_ (nofr _ hsz) upd_same
    · by_cases hb : p.1 = P
      · rw [hu p hp hb, hb]
        refine ⟨_, by rw [upd_ne (ne_of_none hP nC), upd_same], by rw [eL]; exact PySem.TriplesOk_snoc _ _ _ _ ht, fun p' cv hcv => ?_⟩
        rw [eL] at hcv
        rcases among_app _ ht hcv with z | z
        · obtain ⟨c0, e1, e2⟩ := ha p' cv z
          exact ⟨c0, e1, hE _ _ e2 codeO_ne⟩
        · exact ⟨c', z, upd_same⟩
      · obtain ⟨ps', a1, a2, a3⟩ := hT p hp
        refine ⟨ps', by rw [upd_ne (ne_of_none a1 nC), upd_ne hb]; exact a1, a2, fun p' cv hcv => ?_⟩
        obtain ⟨c0, e1, e2⟩ := a3 p' cv hcv
        exact ⟨c0, e1, hE _ _ e2 codeO_ne⟩
    · rw [upd_ne (Nat.ne_of_gt hlt), upd_ne (Nat.ne_of_gt (Nat.lt_of_lt_of_le (Heap.lt_size hP') hsz))]
      exact I.hok.fresh hsz
end
/-- the context of the lambda's body -/
abbrev lamN (X : Cx) (A : Around) (outer : List Env) (s : Shared) (H : Hp) (E : XK) (scope : Scope) (f c' : Addr) : Cx :=
  (lamCx X A outer s H E scope f c').tr [] (fun e s' => wpAny (model X.prog X.w) (A.deeper (lamEnv X scope s.heap.objs.size f c')) (leaving (lamEnv X scope s.heap.objs.size f c') e) (fun _ s'' => L2N.CX X.prog X.w outer H s E e s'') (fun e' s'' => L2N.CX X.prog X.w outer H s E e' s'') s')
theorem lamN_takes {X : Cx} {A : Around} {outer : List Env} {s : Shared} {H : Hp} {E : XK} {scope : Scope} {f c' : Addr} : L2N.Takes (lamN X A outer s H E scope f c') (dW E) := L2N.takes_of rfl rfl rfl rfl
section
variable {X : Cx} {pins : List (Addr × Obj)} {σ : L2.St} {H : Hp} {s : Shared}
/-- x(), in the def that got the lambda -/
theorem pe_actN {CXg : CXT} {Eg : XK} {Ng : List Str} {qg : Str} {sg : Scope} {g f c' : Addr} {cdg pm ctv : Value} {params : Arguments} {body : Expr} {scope : Scope} {k i : Nat} {a : Str} {pn : List (Addr × Obj)} {xe : Value → Shared → Prop} {W : WX} {tb : XK → TE} {p1 p2 : Pos}
    (I : Inv X pins σ H s) (L : LamS X.env.scope scope) (hf : s.heap.get? f = some (PySem.W.kla_obj "<lambda>" (X.env.qual ++ "<lambda>") params body scope (cloFrom X.env.cells scope.names []) pm c' ctv)) (hfn : H f = none) (hfr : f ∉ frs X.stack)
    (hbind : bindArgs (PySem.W.kla_fn "<lambda>" (X.env.qual ++ "<lambda>") params body scope (cloFrom X.env.cells scope.names []) pm (.ref c') ctv) ⟨[], []⟩ = pure [])
    (tk : L2N.Takes ((cxOf CXg X.prog X.w X.K X.mg X.base Ng qg sg g cdg X.A X.stack s H Eg).tr pn xe) W) (hr : Room (k + 1) (X.A.deeper (envOfC qg sg s.heap.objs.size g cdg)))
    (hbody : ∀ (A : Around) (outer : List Env) (s : Shared) (H : Hp) (E : XK), Room k (A.deeper (lamEnv X scope s.heap.objs.size f c')) → PE (lamN X A outer s H E scope f c') body (tb E))
    (hN : Ng[i]? = some a) (hv : Vis sg a) (hd : (a == ("__debug__" : Str)) = false := by decide) (hcd : (a == ("__classdict__" : Str)) = false := by decide) :
    PE ((cxOf CXg X.prog X.w X.K X.mg X.base Ng qg sg g cdg X.A X.stack s H Eg).tr pn xe) (.Call (.Name a p1) [] [] p2)
      (fun σZ HZ Q => σZ[i]? = some (some (.ref f)) ∧ HZ c' = some (CodeO c' (X.env.qual ++ "<lambda>")) ∧ tb (fun cls d H' => W cls d σZ H') σ HZ Q) := by
  refine ⟨fun pinsZ sZ σZ HZ Q IZ h => ?_⟩
  obtain ⟨hs, hc, ht⟩ := h
  refine wpAny_Call_Name_kw (thn ((pe_var (pos := p1) (i := i) hN hv hd hcd).run pinsZ sZ σZ HZ (fun v H1 => v = .ref f ∧ H1 = HZ) IZ ⟨.ref f, hs, rfl, rfl⟩) fun u s1 ⟨v, H1, I1, r1, q1⟩ => ?_)
  obtain ⟨ev, eH⟩ := q1
  subst ev
  rw [eH] at I1
  obtain rfl : u = Value.ref f := r1
  have of1 : s1.heap.get? f = some (PySem.W.kla_obj "<lambda>" (X.env.qual ++ "<lambda>") params body scope (cloFrom X.env.cells scope.names []) pm c' ctv) := I1.base.keep f _ hf hfn hfr (fun z => nomatch (show f ∈ ([] : List Addr) from z))
  refine PySem.W.callWith_F0 ⟨_, _, _, _, of1⟩ ?_
  have un : Un (frs X.stack) [] H HZ s.heap s1.heap := I1.base
  obtain ⟨⟨oc, vs, t, hoc, hdc, hvc⟩, _, _⟩ := I1.hok c' _ hc
  have rc : codeAny (model X.prog X.w) (X.A.deeper (envOfC qg sg s.heap.objs.size g cdg)) (.call (.ref f) ⟨[], []⟩) (CR (L2N.CX X.prog X.w) (envOfC qg sg s.heap.objs.size g cdg :: X.stack) X.prog X.w HZ s1 Q (fun cls d H' => W cls d σZ H')) s1 := by
    refine PySem.W.kla_callFunE hr.depth of1 rfl L.co L.gen rfl ⟨c', oc, vs, t, rfl, hoc, hdc, hvc⟩ ?_
    rw [hbind]
    refine wpAny_pure (wpAny_newFunctionEnv (fun y hy => (L.own y hy).2) (fun y hy => absurd hy (by simp)) (fun h₁ hns hsb => ⟨I1.nolimit.fresh _ hsb, ?_⟩) L.kind)
    show codeAny _ _ (.expr body (lamEnv X scope s1.heap.objs.size f c')) _ _
    have kp : ∀ b o, s1.heap.get? b = some o → h₁.get? b = some o := fun b o e => hsb.extBut b o (Nat.ne_of_lt (Heap.lt_size e)) (Heap.get?_push_of_some _ e)
    have J0 : Inv (lamCx X (X.A.deeper (envOfC qg sg s.heap.objs.size g cdg)) (envOfC qg sg s.heap.objs.size g cdg :: X.stack) s1 HZ (fun cls d H' => W cls d σZ H') scope f c') [] σ HZ { s1 with heap := h₁, toks := s1.toks + ([] : List (Str × Value)).length } :=
      lam_start2 I L I1.env0 hr.hd un hns kp
    have J : Inv (lamN X (X.A.deeper (envOfC qg sg s.heap.objs.size g cdg)) (envOfC qg sg s.heap.objs.size g cdg :: X.stack) s1 HZ (fun cls d H' => W cls d σZ H') scope f c') [] σ HZ { s1 with heap := h₁, toks := s1.toks + ([] : List (Str × Value)).length } := J0.toTry _
    refine PySem.W.kla_codeExpr (wpAny_mono ((hbody _ _ s1 HZ _ (hr.deeper _)).run [] _ _ HZ Q J ht) (fun v s' hq => ?_) fun e s' hq => hq)
    obtain ⟨w', H', J', rv, q⟩ := hq
    exact ⟨w', H', J'.os, J'.bare, J'.base, J'.hok, rv, q⟩
  refine wpAny_call (codeAny_mono rc fun r s' hq => ?_)
  cases r with
  | error e => exact L2N.passAt tk σZ pinsZ HZ s1 e s' I1 hq
  | ok fl =>
    cases fl with
    | ret u => exact I1.after hq
    | next => exact False.elim hq
    | brk => exact False.elim hq
    | cont => exact False.elim hq
end
end Q
set_option Elab.async false
set_option linter.all false
set_option maxRecDepth 100000
set_option maxHeartbeats 4000000
namespace Q
open PySem PySem.Spec PyProof.Rows L2 LamX
open L2H (RoomH Hot1 PinOk HotC)
def tryE (lab : Nat → Str) (f : EF) : EF := fun sd S => match f sd S with
  | .ok d S1 => .ok (.tup [.str "told", d]) S1
  | .exc x S1 => match x.arg with
    | none => if x.k < 15 then .ok (.str (lab x.k)) S1 else .bad
    | some _ => .bad
  | .bad => .bad
structure TryF (T : Tb) (mg : Str → Option Value) (base : Heap) (lvl : Nat) (lab : Nat → Str) : Prop where
  ex : ∃ cT cM cP : Addr, mg "InvalidText" = some (.ref cT) ∧ mg "TooMany" = some (.ref cM) ∧ mg "PatrolError" = some (.ref cP) ∧
    ∀ k D, k < 15 → T.ca k = some D → PySem.W.exmOne T.K (.ref D) (.ref cT) = some false ∧ PySem.W.exmOne T.K (.ref D) (.ref cM) = some false ∧ PySem.W.exmOne T.K (.ref D) (.ref cP) = some true ∧
      ∃ g, FnK T mg base lvl D "_law_kin" g ∧ ∀ a S, g a S = .ok (.str (lab k)) S
theorem pss_false {X : Cx} {l : List Stmt} : PSs X l (fun _ _ _ => False) := ⟨fun _ _ _ _ _ _ h => h.elim⟩
abbrev tryN : List Str := ["call_so", "found", "e"]
def trySc (sc : Scope) : Bool := decide (sc.names.lookup ("call_so" : Str) = some .local) && decide (sc.names.lookup ("found" : Str) = some .local) && decide (sc.names.lookup ("e" : Str) = some .local) &&
  decide (sc.names.lookup ("InvalidText" : Str) = some .globalImplicit) && decide (sc.names.lookup ("TooMany" : Str) = some .globalImplicit) && decide (sc.names.lookup ("PatrolError" : Str) = some .globalImplicit) && decide (sc.names.lookup ("_law_kin" : Str) = some .globalImplicit)
theorem try_ps {T : Tb} {mg : Str → Option Value} {base : Heap} {lvl : Nat} {lab : Nat → Str} (F : TryF T mg base lvl lab) {q : Str} {sc : Scope} {g : Addr} {cdv : Value} {A : Around} {outer : List Env} {s : Shared} {H1 : Hp} {E0 : XK} {f c' : Addr} {qn : Str} {sd : List SV} {S : List MO} {w1 : Wo} {σ : L2.St} {fl : EF} {Q : VK}
    (hsc : trySc sc = true) (hr : Room lvl (dX T mg base tryN q sc g cdv A outer s H1 E0).A)
    (hH : w1.H = H1) (d1 : Wd T w1 S) (s1 : RS T w1 sd σ) (hc : H1 c' = some (CodeO c' qn))
    (act : ∀ (W : WX) (pn : List (Addr × Obj)) (xe : Value → Shared → Prop) (p1 p2 : Pos), L2N.Takes ((dX T mg base tryN q sc g cdv A outer s H1 E0).tr pn xe) W →
      PE ((dX T mg base tryN q sc g cdv A outer s H1 E0).tr pn xe) (.Call (.Name "call_so" p1) [] [] p2) (fun σZ HZ Q => σZ[0]? = some (some (.ref f)) ∧ HZ c' = some (CodeO c' qn) ∧ tM T (fun cls d _ H' => W cls d σZ H') fl σ HZ Q))
    (hq : PG T (fun _ _ _ => False) (RepV T) Q w1 (tryE lab fl sd S))
    {j1 j2 k2 : Nat} {a1 a2 a3 b1 b2 b3 b4 b5 b6 c1 c2 c3 c4 c5 c6 c7 d1' d2 d3 d4 d5 e1 e2 : Pos} {x1 x2 : Stmt} {xs1 xs2 : List Stmt} :
    ∃ t, PSs (dX T mg base tryN q sc g cdv A outer s H1 E0) [.Assign [.Name "found" a1] (.Constant .none j1 a2) a3,
      .Try [.Assign [.Name "found" b1] (.Tuple [.Constant (.str "told") j2 b2, .Call (.Name "call_so" b3) [] [] b4] k2 b5) b6]
        [.ExceptHandler (some (.Name "InvalidText" c1)) (some "e") (x1 :: xs1) c2, .ExceptHandler (some (.Name "TooMany" c3)) (some "e") (x2 :: xs2) c4,
          .ExceptHandler (some (.Name "PatrolError" c5)) (some "e") [.Assign [.Name "found" d1'] (.Call (.Name "_law_kin" d2) [.Name "e" d3] [] d4) d5] c6] [] [] c7,
      .Return (some (.Name "found" e1)) e2] t ∧ t { nx := fun _ H' => Q .non H', rt := Q } (L2.start tryN [.ref f]) H1 := by
  obtain ⟨cT, cM, cP, m1, m2, m3, ff⟩ := F.ex
  unfold trySc at hsc
  simp only [Bool.and_eq_true, decide_eq_true_eq] at hsc
  obtain ⟨⟨⟨⟨⟨⟨h1, h2⟩, h3⟩, h4⟩, h5⟩, h6⟩, h7⟩ := hsc
  have nd : tryN.Nodup := by decide
  have tsOf : ∀ (a : Addr) (oe : Obj) (cls : Value) (d : Option Addr) (pn : List (Addr × Obj)), L2N.Zn cls d oe → (∃ vs, oe.data = .fields vs) →
      PSs ((dX T mg base tryN q sc g cdv A outer s H1 E0).suite a ((a, oe) :: pn)) [.Assign [.Name "found" d1'] (.Call (.Name "_law_kin" d2) [.Name "e" d3] [] d4) d5]
        (fun Dn σ' H' => ∃ k D, cls = .ref D ∧ d = none ∧ k < 15 ∧ T.ca k = some D ∧ σ'[2]? = some (some (.ref a)) ∧ ∃ S w, w.H = H' ∧ Wd T w S ∧ ∀ v w', Ext w w' → Wd T w' S → Rep T w'.lam w'.G (.str (lab k)) v → Dn.nx (σ'.set 1 (some v)) w'.H) := by
    intro a oe cls d pn hz hf
    refine ⟨fun pins s' σ' H' Dn I h => ?_⟩
    obtain ⟨k, D, rfl, rfl, hk, hD, h2', S', w, rfl, d', q'⟩ := h
    obtain ⟨_, _, _, gk, FK, hg⟩ := ff k D hk hD
    obtain ⟨ak, fd, p0, hm, hkp, hb, FX⟩ := FK.ex
    obtain ⟨vs, hvs⟩ := hf
    have hot : Hot1 ((dX T mg base tryN q sc g cdv A outer s H1 E0).suite a ((a, oe) :: pn)).A (a, oe) := ⟨rfl, vs, hvs, hz.2.2 vs hvs⟩
    have pe := pe_callX (X := (dX T mg base tryN q sc g cdv A outer s H1 E0).suite a ((a, oe) :: pn)) (x := "_law_kin") (q := d2) (pos := d4) (E := fun _ _ _ _ => False) (a, oe) FX ⟨hr.dp, hr.un⟩ hot (List.mem_cons_self ..) h7 hm hkp hb
      (fun σ pins H s e s' I c => by obtain ⟨_, _, _, _, _, _, _, _, _, _, _, _, z⟩ := c; exact z.elim)
      (pa_cons (pe_var (pos := d3) (i := 2) (x := "e") rfl (.inl h3)) pa_nil)
    have P := pss_one (ps_set (X := (dX T mg base tryN q sc g cdv A outer s H1 E0).suite a ((a, oe) :: pn)) (i := 1) (x := "found") (pos := d5) (pos' := d1') nd rfl (.inl h2) pe rfl (.inl rfl))
    refine P.run pins s' σ' w.H Dn I ?_
    refine ⟨.ref a, h2', ?_⟩
    show spK T D gk (a, oe) [.ref a] w.H _ _
    refine ⟨⟨hz.1, hz.2.1⟩, ⟨vs, hvs⟩, rfl, S', w, rfl, d', ?_⟩
    rw [hg a S']
    exact fun v w' x dd r => q' v w' x dd r
  refine ⟨_, pss_cons (ps_set (i := 1) nd rfl (.inl h2) pe_non rfl (.inl rfl)) (pss_cons (ps_try_asM (i := 2) (n := "e") (Wout := fun _ _ _ _ => False) rfl rfl nd rfl h3 (fun _ _ x => by obtain ⟨_, _, _, _, _, _, _, _, _, _, _, _, _, _, _, _, z⟩ := x; exact z.elim)
    (fun W pn xe tk _ => pss_one (ps_set (i := 1) nd rfl (.inl h2) (pe_tup (pa_cons pe_str (pa_cons (act W pn xe b3 b4 tk) pa_nil))) rfl (.inl rfl)))
    (.cons (c := .ref cT) ⟨h4, by decide, .inl m1⟩ (ts := fun _ _ _ _ _ _ => False) (fun _ _ _ _ _ _ _ => pss_false) (.cons (c := .ref cM) ⟨h5, by decide, .inl m2⟩ (ts := fun _ _ _ _ _ _ => False) (fun _ _ _ _ _ _ _ => pss_false) (.cons (c := .ref cP) ⟨h6, by decide, .inl m3⟩ tsOf .nil))))
    (pss_one (ps_ret (pe_var (i := 1) rfl (.inl h2))))), ?_⟩
  subst hH
  refine ⟨rfl, hc, sd, S, w1, rfl, d1, s1, ?_⟩
  have e0 : tryE lab fl sd S = (match fl sd S with
    | .ok d S1 => .ok (.tup [.str "told", d]) S1
    | .exc x S1 => match x.arg with
      | none => if x.k < 15 then .ok (.str (lab x.k)) S1 else .bad
      | some _ => .bad
    | .bad => .bad) := rfl
  rw [e0] at hq
  cases r : fl sd S with
  | bad => rw [r] at hq; exact hq.elim
  | ok d S1 =>
    rw [r] at hq
    intro v w2 x2 d2 rep
    refine ⟨by show 2 ≤ sizeLine; decide, fun p hp => ⟨.ref p, rfl, ?_⟩⟩
    obtain ⟨al, rr⟩ := new_tup (ds := [.str "told", d]) d2 hp (.cons (.str _) (.cons rep .nil))
    exact hq _ _ (x2.trans al.ext) (d2.alc al) rr
  | exc x S1 =>
    rw [r] at hq
    obtain ⟨k, arg⟩ := x
    cases arg with
    | some a => exact hq.elim
    | none =>
      have hq : PG T (fun _ _ _ => False) (RepV T) Q w1 ((if k < 15 then .ok (.str (lab k)) S1 else .bad : Res _root_.Q.D)) := hq
      by_cases hk : k < 15
      · rw [if_pos hk] at hq
        intro cls d w2 x2 d2 er
        obtain ⟨D, hD, rfl, hd⟩ := er
        obtain ⟨f1, f2, f3, _⟩ := ff k D hk hD
        refine ⟨false, f1, fun z => (Bool.noConfusion z), fun _ => ⟨false, f2, fun z => (Bool.noConfusion z), fun _ => ⟨true, f3, fun _ a ha => ?_, fun z => Bool.noConfusion z⟩⟩⟩
        refine ⟨k, D, rfl, hd, hk, hD, rfl, S1, w2, rfl, d2, fun v w' x' d' rep => ⟨v, rfl, ?_⟩⟩
        exact hq v w' (x2.trans x') d' rep
      · rw [if_neg hk] at hq
        exact hq.elim
end Q
set_option Elab.async false
set_option linter.all false
set_option maxRecDepth 100000
set_option maxHeartbeats 4000000
namespace Q
open PySem PySem.Spec PyProof.Rows L2 LamX
/-- what the defs of the table do, by their numbers -/
abbrev GT := Nat → Option (List D → M D)
def goK (m : M (List D)) : Option (List D → M D) → M D
  | some g => m >>= g
  | none => M.bad
def callK (gt : GT) (m : M (List D)) : D → M D
  | .fn k => goK m (gt k)
  | _ => M.bad
def callvE (gt : GT) (i : Nat) (h : AF) : EF := fun sd => getv i sd >>= callK gt (h sd)
/-- the defs of the table with n parameters, at most k deep -/
def GtOk (T : Tb) (mg : Str → Option Value) (base : Heap) (k n : Nat) (gt : GT) : Prop := ∀ f g, gt f = some g → ∃ j x ps, j ≤ k ∧ ps.length = n ∧ FnD T mg base j f x ps g
section
variable {X : Cx} {T : Tb} {W : XK}
theorem getv_of {w : Wo} {sd : List SV} {S S1 : List MO} {σ : L2.St} {i : Nat} {d : D} (h : getv i sd S = .ok d S1) (r : RS T w sd σ) : S1 = S ∧ ∃ v, σ[i]? = some (some v) ∧ Rep T w.lam w.G d v := by
  unfold getv at h
  cases e : sd[i]? with
  | none => rw [e] at h; cases h
  | some sv =>
    rw [e] at h
    cases sv with
    | val d' =>
      obtain ⟨ov, ho, v, hv, hr⟩ := r.get e
      have h : (pure d' : M D) S = .ok d S1 := h
      cases h
      exact ⟨rfl, v, by rw [ho, hv], hr⟩
    | un => cases h
    | own _ => cases h
    | dic _ _ _ => cases h
    | raw _ => cases h
theorem xcallv {k n i : Nat} {x : Str} {gt : GT} {a : Expr} {es : List Expr} {p pos : Pos} {h : AF} (tk : L2N.Takes X (dW W)) (hr : Room k X.A) (G : GtOk T X.mg X.base k n gt) (ha : PA X (a :: es) (tML T (dW W) h)) (hn : (a :: es).length = n := by rfl)
    (hlen : LenM (a :: es).length h := by repeat (first | exact lenM_nil | apply lenM_cons)) (l : Lk T X := by exact ⟨rfl, rfl, rfl⟩) (hN : X.N[i]? = some x := by rfl) (hv : Vis X.env.scope x := by first | exact .inl rfl | exact .inr (.inl rfl) | exact .inr (.inr rfl)) (hdb : (x == ("__debug__" : Str)) = false := by decide) (hcd : (x == ("__classdict__" : Str)) = false := by decide)
    (he : starEach (a :: es) X.env = (false, eval a X.env) :: starEach es X.env := by rfl) (hpl : (backTo pos (starEach es X.env)).any (·.1) = false := by rfl) : PE X (.Call (.Name x p) (a :: es) [] pos) (tM T (dW W) (callvE gt i h)) := by
  refine ⟨fun pins s σ H Q I hq => ?_⟩
  obtain ⟨sd, S, w, e1, d1, s1, q⟩ := hq
  have q : PG T (fun c d H' => dW W c d σ H') (RepV T) Q w ((getv i sd >>= callK gt (h sd)) S) := q
  rw [bind_ap] at q
  cases hg : getv i sd S with
  | bad => rw [hg] at q; exact q.elim
  | exc y S1 =>
    exfalso
    unfold getv at hg
    cases e : sd[i]? with
    | none => rw [e] at hg; cases hg
    | some sv => rw [e] at hg; cases sv <;> cases hg
  | ok d S1 =>
    rw [hg] at q
    obtain ⟨rfl, v, hσ, rv⟩ := getv_of hg s1
    cases d with
    | fn f =>
      have q : PG T (fun c d H' => dW W c d σ H') (RepV T) Q w (goK (h sd) (gt f) S1) := q
      cases hgt : gt f with
      | none => rw [hgt] at q; exact q.elim
      | some g =>
        rw [hgt] at q
        obtain ⟨j, y, ps, hj, hps, Fd⟩ := G f g hgt
        obtain ⟨a', fd, ha', hm, hk, hb, _, F⟩ := Fd.ex
        obtain ⟨lK, lP, lw⟩ := l
        have F' : FnOk X.prog X.w X.K X.mg X.base (L2N.CX X.prog X.w) j a' fd ps (spD T ps.length g) := by rw [lK, lP, lw]; exact F
        cases rv with
        | fn hfa =>
          rename_i av
          have ea : av = a' := Option.some.inj (hfa.symm.trans ha')
          subst ea
          refine (pe_callL (i := i) (f := av) (dvs := []) (E := W) F' (hr.mono hj) hN hv (by rw [lK]; exact hk) (by rw [lK]; exact hb) .nil (fun pins σ H s e s' I c => L2N.passAt tk σ pins H s e s' I c) ha hdb hcd he hpl).run pins s σ H Q I ⟨hσ, ?_⟩
          refine ⟨sd, S1, w, e1, d1, s1, ?_⟩
          have q : PG T (fun c d H' => dW W c d σ H') (RepV T) Q w ((h sd >>= g) S1) := q
          rw [bind_ap] at q
          cases hh : h sd S1 with
          | bad => rw [hh] at q; exact q.elim
          | exc y S2 => rw [hh] at q; exact fun cls d w' x' d' er => q cls d w' x' d' er
          | ok ds S2 =>
            rw [hh] at q
            intro vs w' x' d' rr
            refine ⟨ds, S2, w', by rw [hlen _ _ _ _ hh, hps]; exact hn, rfl, d', by rw [List.append_nil]; exact rr, q.shift x'⟩
    | _ => exact q.elim
end
def TryAst (l : List Stmt) : Prop := ∃ (j1 j2 k2 : Nat) (a1 a2 a3 b1 b2 b3 b4 b5 b6 c1 c2 c3 c4 c5 c6 c7 d1 d2 d3 d4 d5 e1 e2 : Pos) (x1 x2 : Stmt) (xs1 xs2 : List Stmt), l = [.Assign [.Name "found" a1] (.Constant .none j1 a2) a3,
      .Try [.Assign [.Name "found" b1] (.Tuple [.Constant (.str "told") j2 b2, .Call (.Name "call_so" b3) [] [] b4] k2 b5) b6]
        [.ExceptHandler (some (.Name "InvalidText" c1)) (some "e") (x1 :: xs1) c2, .ExceptHandler (some (.Name "TooMany" c3)) (some "e") (x2 :: xs2) c4,
          .ExceptHandler (some (.Name "PatrolError" c5)) (some "e") [.Assign [.Name "found" d1] (.Call (.Name "_law_kin" d2) [.Name "e" d3] [] d4) d5] c6] [] [] c7,
      .Return (some (.Name "found" e1)) e2]
structure TryD (T : Tb) (mg : Str → Option Value) (base : Heap) (lvl : Nat) (lab : Nat → Str) : Prop where
  ex : ∃ st idx, DefOk T mg "_law_try" st idx ["call_so"] ∧ FnScope tryN ["call_so"] (defScope st) ∧ trySc (defScope st) = true ∧ TryAst (defBody st)
  f : TryF T mg base lvl lab
/-- the maker's code object and the table of the codes that it has made -/
structure LamOk (T : Tb) (mg : Str → Option Value) (base : Heap) (code : Value) (q : Str) : Prop where
  ex : ∃ c P, code = .ref c ∧ TabB base mg c P ∧ (P, q ++ "<lambda>") ∈ T.tabs ∧ ∀ p ∈ T.tabs, p.1 = P → p.2 = q ++ "<lambda>"
section
variable {X : Cx} {T : Tb} {W : WX}
theorem wd_tables {w : Wo} {S : List MO} {H1 : Hp} (d : Wd T w S) (eN : ExtN w.H H1) (th : ∀ b, w.H b ≠ none → H1 b ≠ none) (t1 : Tabs T.tabs H1) : Ext w ⟨w.lam, w.G, H1⟩ ∧ Wd T ⟨w.lam, w.G, H1⟩ S := by
  have ex : Ext w ⟨w.lam, w.G, H1⟩ := ⟨⟨[], by simp⟩, fun a h => .inl h, Same.refl _, fun _ _ h => h, fun b o h n _ => eN b o h n, th⟩
  refine ⟨ex, d.len, d.nd, fun b o h => eN b o (d.sub b o h) (fun ps z => d.notb b ps (by rw [h, z])), d.out, fun n a m h1 h2 => ?_, t1, d.notb⟩
  have q := d.obj n a m h1 h2
  refine q.keep ex ?_
  cases m with
  | lst ds => obtain ⟨vs, h3, _⟩ := q; rw [h3]; exact eN _ _ h3 (fun ps z => by cases z)
  | ins c fs => obtain ⟨C, dx, fvs, _, h3, _⟩ := q; rw [h3]; exact eN _ _ h3 (fun ps z => by cases z)
/-- _law_try(lambda: body) -/
theorem xtry (sc : Scope) {lvl k : Nat} {lab : Nat → Str} {params : Arguments} {body : Expr} {scope : Scope} {lpos p pos : Pos} {fl : EF} (tr : TryD T X.mg X.base lvl lab) (lm : LamOk T X.mg X.base X.env.code X.env.qual) (hr : Room (k + 2) X.A) (hl : lvl ≤ k + 1)
    (hbody : ∀ (A : Around) (outer : List Env) (s : Shared) (H : Hp) (E : XK) (f c' : Addr), Room k (A.deeper (lamEnv X scope s.heap.objs.size f c')) → PE (lamN X A outer s H E scope f c') body (tM T (dW E) fl))
    (hsc0 : X.env.scope = sc := by rfl) (hL0 : lamSB sc scope = true := by decide +kernel) (hdef : defaultsOf params X.env = ([], []) := by rfl)
    (hbind : ∀ (q : Str) (cl : List (Str × Addr)) (pm cv ctv : Value), bindArgs (PySem.W.kla_fn "<lambda>" q params body scope cl pm cv ctv) ⟨[], []⟩ = pure [] := by intros; rfl)
    (hg : Gl X "_law_try" := by rfl) (l : Lk T X := by exact ⟨rfl, rfl, rfl⟩) :
    PE X (.Call (.Name "_law_try" p) [.Lambda params body scope lpos] [] pos) (tM T W (tryE lab fl)) := by
  refine ⟨fun pins s σ H Q I h => ?_⟩
  obtain ⟨sd, S, w, rfl, d1, s1, q⟩ := h
  obtain ⟨⟨st, idx, Df, Sg, hsc, ast⟩, F⟩ := tr
  obtain ⟨qual, g, fd, Fn, hb, hf, hm⟩ := Df.ex
  obtain ⟨oc, od, kV, doc, pm, an, cdv, ct, osl, rfl, lk, hcd⟩ := Fn.ex
  obtain ⟨c, P, hcode, TB, hmT, hu⟩ := lm.ex
  obtain ⟨lK, lP, lw⟩ := l
  have L := lamS_by (sc := X.env.scope) (by rw [hsc0]; exact hL0)
  refine wpAny_Call_Name_kw (ld_glob I hg hm ?_ (by decide))
  refine PySem.W.callWith_K (h₀ := X.base) I.ok.mod.kin (by rw [lK]; exact Fn.kp) ?_ (by rfl) (by rfl)
  show wpAny _ _ (spliced ((false, eval (.Lambda params body scope lpos) X.env) :: backTo pos (starEach [] X.env))) _ _ s
  refine Calls.spliced_cons (lam_make3 I TB hcode hmT hu d1.tabs hdef (L.has I.ok) fun f c' pm' ctv H1 s' I1 eN th T1 hf hfn hfr hco => ?_)
  refine Calls.spliced_nil ⟨I1.kIn, ?_⟩
  obtain ⟨ex1, wd1⟩ := wd_tables d1 eN th T1
  have rc : codeAny (model X.prog X.w) X.A (.call (.ref g) ⟨[.ref f], []⟩) (CR (L2N.CX X.prog X.w) X.stack X.prog X.w H1 s' Q (fun _ _ _ => False)) s' := by
    refine run_ofS (N := tryN) (ps := ["call_so"]) (us := [.ref f]) (vs := [.ref f]) (by rw [lK]; exact lk) (by rw [lK]; exact hcd) Sg hr I1.env0 (hb s' [.ref f] (by rw [← lK]; exact I1.kIn) rfl) (.cons rfl .nil) rfl fun hr' => ?_
    obtain ⟨j1, j2, k2, a1, a2, a3, b1, b2, b3, b4, b5, b6, c1, c2, c3, c4, c5, c6, c7, e1, e2, e3, e4, e5, f1, f2, x1, x2, xs1, xs2, hast⟩ := ast
    rw [hast, lK, lP, lw]
    exact try_ps (T := T) (lvl := lvl) (lab := lab) (mg := X.mg) (base := X.base) (q := qual) (g := g) (cdv := cdv) (A := X.A) (outer := X.stack) (s := s') (H1 := H1) (E0 := fun _ _ _ => False) (f := f) (c' := c') (qn := X.env.qual ++ "<lambda>") (w1 := ⟨w.lam, w.G, H1⟩) (σ := σ) (fl := fl) F hsc
      ((hr'.mono hl)) rfl wd1 (s1.ext ex1) hco
      (fun W pn xe p1 p2 tk => by
        have e : dX T X.mg X.base tryN qual (defScope st) g cdv X.A X.stack s' H1 (fun _ _ _ => False) = cxOf (L2N.CX X.prog X.w) X.prog X.w X.K X.mg X.base tryN qual (defScope st) g cdv X.A X.stack s' H1 (fun _ _ _ => False) := by rw [lK, lP, lw]
        rw [e] at tk ⊢
        exact pe_actN (k := k) (i := 0) (tb := fun E => tM T (dW E) fl) I1 L hf hfn hfr (hbind _ _ _ _ _) tk hr' (fun A outer s H E hr2 => hbody A outer s H E f c' hr2) rfl (.inl (by
          have z := hsc
          unfold trySc at z
          simp only [Bool.and_eq_true, decide_eq_true_eq] at z
          exact z.1.1.1.1.1.1)))
      (by
        have q2 := q.shift ex1
        unfold tryE at q2 ⊢
        cases hr : fl sd S with
        | bad => rw [hr] at q2; exact q2.elim
        | ok d S1 => rw [hr] at q2; exact q2
        | exc x S1 =>
          rw [hr] at q2
          obtain ⟨kk, arg⟩ := x
          cases arg with
          | some a => exact q2.elim
          | none =>
            have q2 : PG T (fun c d H' => W c d σ H') (RepV T) Q ⟨w.lam, w.G, H1⟩ ((if kk < 15 then .ok (.str (lab kk)) S1 else .bad : Res D)) := q2
            show PG T _ (RepV T) Q ⟨w.lam, w.G, H1⟩ ((if kk < 15 then .ok (.str (lab kk)) S1 else .bad : Res D))
            by_cases hk : kk < 15
            · rw [if_pos hk] at q2 ⊢; exact q2
            · rw [if_neg hk] at q2 ⊢; exact q2)
  refine wpAny_call (codeAny_mono rc fun r s2 hq => ?_)
  cases r with
  | error e => obtain ⟨_, _, _, _, _, _, _, _, _, _, _, _, z⟩ := hq; exact z.elim
  | ok fl =>
    cases fl with
    | ret u => exact I1.after hq
    | next => exact False.elim hq
    | brk => exact False.elim hq
    | cont => exact False.elim hq
end
/-- a def that makes lambdas -/
structure DefOkL (T : Tb) (mg : Str → Option Value) (base : Heap) (x : Str) (st : Stmt) (idx : Nat) (ps : List Str) : Prop where
  ex : ∃ qual a oc od kV doc pm an cdv ct osl, T.K.lookup a = some ⟨oc, od, .func (PySem.W.fnOf x qual (defArgs st) (defBody st) (defScope st) .none kV doc pm an cdv ct), osl⟩ ∧ PySem.W.codeIn T.K cdv qual = true ∧ PySem.W.keepIn T.K (.ref a) = true ∧
    L2.Binds T.K (PySem.W.fnOf x qual (defArgs st) (defBody st) (defScope st) .none kV doc pm an cdv ct) ps [] ∧ T.fa idx = some a ∧ mg x = some (.ref a) ∧ LamOk T mg base cdv (envOfC qual (defScope st) 0 a cdv).qual
theorem fnD_byL {T : Tb} {mg : Str → Option Value} {base : Heap} {x : Str} {st : Stmt} {N ps : List Str} {k n idx : Nat} {F : SF} (d : DefOkL T mg base x st idx ps) (S : FnScope N ps (defScope st)) (hn : N.length = n)
    (body : ∀ (qual : Str) (a : Addr) (cdv : Value) (A : Around) (outer : List Env) (s : Shared) (H : Hp) (E : XK) (e : Wo),
      LamOk T mg base (dX T mg base N qual (defScope st) a cdv A outer s H E).env.code (dX T mg base N qual (defScope st) a cdv A outer s H E).env.qual →
      Room k (dX T mg base N qual (defScope st) a cdv A outer s H E).A → (dX T mg base N qual (defScope st) a cdv A outer s H E).A.units + 65 < cLine →
      L2N.Takes (dX T mg base N qual (defScope st) a cdv A outer s H E) (dW E) →
      PassesOwn (model T.P T.w) (dX T mg base N qual (defScope st) a cdv A outer s H E).A (dX T mg base N qual (defScope st) a cdv A outer s H E).env (dX T mg base N qual (defScope st) a cdv A outer s H E).xe →
      N.Nodup → PSs (dX T mg base N qual (defScope st) a cdv A outer s H E) (defBody st) (tS T e (dW E) F)) :
    FnD T mg base (k + 1) idx x ps (runF n F) := by
  obtain ⟨qual, a, oc, od, kV, doc, pm, an, cdv, ct, osl, lk, hcd, kp, hb, hf, hm, lm⟩ := d.ex
  refine ⟨a, _, hf, hm, kp, hb, ⟨_, _, _, lk⟩, ?_⟩
  refine fn_of lk hcd S (fun vs H Q E h => ?_) fun A outer s H vs Q E hr h => ?_
  · obtain ⟨ds, S', w, hl, _, _, r, _⟩ := h
    rw [← r.length, hl]
  · obtain ⟨ds, S', w, hl, e1, d1, r, q⟩ := h
    refine ⟨_, body qual a cdv A outer s H E w lm hr (Nat.lt_of_le_of_lt (by show (A.deeper (envOfC qual (defScope st) s.heap.objs.size a cdv)).units + 65 ≤ _; omega) hr.un) (L2N.takes_of rfl rfl rfl rfl) (L2.passes_of rfl) S.nd, sd0 n ds, S', w, e1, ⟨.refl w, d1, rs_start n N hn r, own_start (w := w) n⟩, ?_⟩
    unfold runF at q
    cases hF : F (sd0 n ds) S' with
    | nx sd S1 => rw [hF] at q; exact fun σ w' l s => q .non w' s.ext s.wd .non
    | rt d S1 => rw [hF] at q; exact fun v w' x d r => q v w' x d r
    | ex x sd S1 => rw [hF] at q; exact fun cls d σ w' s r => q cls d w' s.ext s.wd r
    | bad => rw [hF] at q; exact q.elim
theorem room_u {k : Nat} {A : Around} (r : Room k A) : A.units + 65 < cLine := by have := r.un; omega
/-- a def's name as a value -/
theorem xfn {X : Cx} {T : Tb} {W : WX} {x : Str} {idx : Nat} {pos : Pos} (h : ∃ a, T.fa idx = some a ∧ X.mg x = some (.ref a)) (hg : Gl X x := by rfl) (hd : (x == ("__debug__" : Str)) = false := by decide) : PE X (.Name x pos) (tM T W (litE (.fn idx))) := by
  obtain ⟨a, h1, h2⟩ := h
  exact PE.imp (pe_glob (v := .ref a) hg h2 rfl hd) fun σ H Q q => tR_pure q fun _ _ => .fn h1
theorem DefOk.val {T : Tb} {mg : Str → Option Value} {x : Str} {st : Stmt} {idx : Nat} {ps : List Str} (d : DefOk T mg x st idx ps) : ∃ a, T.fa idx = some a ∧ mg x = some (.ref a) := by
  obtain ⟨_, a, _, _, _, h1, h2⟩ := d.ex
  exact ⟨a, h1, h2⟩
theorem fnD_bad {T : Tb} {mg : Str → Option Value} {base : Heap} {x : Str} {st : Stmt} {N ps : List Str} {k idx : Nat} (d : DefOk T mg x st idx ps) (S : FnScope N ps (defScope st)) : FnD T mg base (k + 1) idx x ps (fun _ => M.bad) :=
  fnD_by (n := N.length) (F := fun _ _ => .bad) d S rfl fun q a cdv A outer s H E e hr hu tk hp nd => ⟨fun pins s σ H D I h => by
    obtain ⟨_, _, _, _, _, z⟩ := h
    exact z.elim⟩
end Q
set_option Elab.async false
set_option linter.all false
set_option maxRecDepth 100000
set_option maxHeartbeats 4000000
namespace Q
open PySem PySem.Spec PyProof.Rows L2
section
variable {prog : Program} {w : World} {A : Around} {E : Value → Shared → Prop} {s : Shared}
/-- the zip's own tuple is at rest, or a tuple that it gave is still held -/
def ZSt (h : Heap) (z TI TO i1 i2 : Addr) : Prop := (IsZip h z TI TO .none ∧ ∃ a b, IsPair h TO a b) ∨ ∃ T f a b, IsZipHeld h z TI TO T f ∧ IsPair h T a b ∧ T ≠ z ∧ T ≠ i1 ∧ T ≠ i2
/-- the state of a zip of tuples behind i items -/
structure ZT (h : Heap) (z TI TO i1 i2 l1 l2 : Addr) (xs ys : Array Value) (i : Nat) : Prop where
  st : ZSt h z TI TO i1 i2
  ti : IsPair h TI (.ref i1) (.ref i2)
  h1 : IsTupIter h i1 l1 i
  h2 : IsTupIter h i2 l2 i
  l1 : h.IsTuple l1 xs
  l2 : h.IsTuple l2 ys
theorem zipT_item {z TI TO i1 i2 l1 l2 : Addr} {k : Nat} {xs ys : Array Value} {x y : Value} {Q : Option Value → Shared → Prop} (D : ZipApart z TI TO i1 i2 l1 l2) (Z : ZT s.heap z TI TO i1 i2 l1 l2 xs ys k) (hx : xs[k]? = some x) (hy : ys[k]? = some y)
    (hQ : ∀ h', ZT h' z TI TO i1 i2 l1 l2 xs ys (k + 1) → IsPair h' s.heap.objs.size x y → h'.objs.size = s.heap.objs.size + 1 →
      (∀ c o, c ≠ z → c ≠ TO → c ≠ i1 → c ≠ i2 → s.heap.get? c = some o → h'.get? c = some o) → Q (some (.ref s.heap.objs.size)) { s with heap := h' }) :
    wpAny (model prog w) A (pyNext (.ref z)) Q E s := by
  obtain ⟨st, ti, h1, h2, hl1, hl2⟩ := Z
  have zlt : z < s.heap.objs.size := by
    rcases st with ⟨e, _⟩ | ⟨T, f, ta, tb, e, _⟩
    · exact Heap.lt_size e
    · exact Heap.lt_size e
  have lt1 : i1 < s.heap.objs.size := by obtain ⟨o, e, _⟩ := h1; exact Heap.lt_size e
  have lt2 : i2 < s.heap.objs.size := by obtain ⟨o, e, _⟩ := h2; exact Heap.lt_size e
  rcases st with ⟨hz, a, b, hTO⟩ | ⟨T, f, ta, tb, hz, hT, nz, n1, n2⟩
  · exact RZ.pyNext_zipT_item D hz ti hTO h1 h2 hl1 hl2 hx hy fun h' z' to' h1' h2' hp hs hk =>
      hQ h' ⟨.inr ⟨_, false, _, _, z', hp, Nat.ne_of_gt zlt, Nat.ne_of_gt lt1, Nat.ne_of_gt lt2⟩, hk _ _ D.TIz D.TITO D.TIi1 D.TIi2 ti, h1', h2', hl1.at fun o e => hk _ o D.l1z D.l1TO D.l1i1 D.l1i2 e, hl2.at fun o e => hk _ o D.l2z D.l2TO D.l2i1 D.l2i2 e⟩ hp hs hk
  · have hTy : s.TypeIs (.ref z) "zip" := ⟨_, hz, rfl⟩
    unfold pyNext
    refine wpAny_bind (wpAny_attempt (wpAny_callSpecial?_slot (name := Str.ofString "__next__") hTy F.slot_zip_next (wpAny_call_entry F.slot_zip_next hTy F.entry_zip_next ?_ (F.args_zip_next_1 _))))
    show wpAny _ _ (field (.ref z) 2 >>= _) _ _ _
    refine wpAny_bind (wpAny_field hz rfl (x := .bool false) rfl ?_)
    show wpAny _ _ (field (.ref z) 3 >>= _) _ _ _
    refine wpAny_bind (wpAny_field hz rfl (x := .ref TI) rfl (wpAny_bind (wpAny_seqItems ti rfl ?_)))
    show wpAny _ _ (Builtin.SmallTypes.ownedTupleIsFree (.ref z) >>= _) _ _ _
    refine wpAny_bind (wpAny_tupleHeld_zip hz hT fun h₁ hz₁ hs₁ => ?_)
    simp only [Bool.false_eq_true, if_false]
    refine wpAny_bind ?_
    rw [← Array.forIn_toList]
    simp only [List.forIn_cons, List.forIn_nil]
    refine wpAny_bind (wpAny_bind (wpAny_holding ?_))
    show wpAny _ _ (Builtin.SmallTypes.nextOf (.ref i1) >>= _) _ _ _
    refine wpAny_bind (RZ.nextOf_tuple_item (s := { s with heap := h₁ }) (h1.extBut hs₁.extBut D.i1z) (hl1.extBut hs₁.extBut D.l1z) hx fun h₂ h1₂ hs₂ => wpAny_pure (wpAny_pure ?_))
    refine wpAny_bind (wpAny_bind (wpAny_holding ?_))
    show wpAny _ _ (Builtin.SmallTypes.nextOf (.ref i2) >>= _) _ _ _
    refine wpAny_bind (RZ.nextOf_tuple_item (s := { s with heap := h₂ }) ((h2.extBut hs₁.extBut D.i2z).extBut hs₂.extBut D.i12.symm) ((hl2.extBut hs₁.extBut D.l2z).extBut hs₂.extBut D.l2i1) hy fun h₃ h2₃ hs₃ => wpAny_pure (wpAny_pure (wpAny_pure ?_)))
    show wpAny _ _ (newTuple [x, y] >>= _) _ _ _
    refine wpAny_bind (wpAny_newTuple ?_)
    have hsz : h₃.objs.size = s.heap.objs.size := by rw [hs₃.1, hs₂.1, hs₁.1]
    have hz₃ : IsZipHeld h₃ z TI TO T true := hs₃.extBut _ _ D.i2z.symm (hs₂.extBut _ _ D.i1z.symm hz₁)
    have hk : ∀ c o, c ≠ z → c ≠ i1 → c ≠ i2 → s.heap.get? c = some o → h₃.get? c = some o := fun c o c1 c2 c3 e => hs₃.extBut _ _ c3 (hs₂.extBut _ _ c2 (hs₁.extBut _ _ c1 e))
    have up : ∀ c o, h₃.get? c = some o → (h₃.push { cls := .type "tuple", data := .seq #[x, y] }).get? c = some o := fun c o e => Heap.get?_push_of_some _ e
    have hp : IsPair (h₃.push { cls := .type "tuple", data := .seq #[x, y] }) h₃.objs.size x y := Heap.get?_push_size _ rfl
    have hz4 : (h₃.push { cls := .type "tuple", data := .seq #[x, y] }).objs.size = h₃.objs.size + 1 := Heap.size_push ..
    refine wpAny_pure ⟨_, rfl, wpAny_pure ?_⟩
    show Q (some (.ref h₃.objs.size)) _
    rw [hsz] at hp hz4 ⊢
    exact hQ _ ⟨.inr ⟨T, true, ta, tb, up _ _ hz₃, up _ _ (hk _ _ nz n1 n2 hT), nz, n1, n2⟩, up _ _ (hk _ _ D.TIz D.TIi1 D.TIi2 ti), (h1₂.extBut hs₃.extBut D.i12).at fun o e => up _ o e, h2₃.at fun o e => up _ o e,
      hl1.at fun o e => up _ o (hk _ o D.l1z D.l1i1 D.l1i2 e), hl2.at fun o e => up _ o (hk _ o D.l2z D.l2i1 D.l2i2 e)⟩ hp hz4 fun c o c1 _ c2 c3 e => up _ o (hk c o c1 c2 c3 e)
theorem zipT_done {z TI TO i1 i2 l1 l2 : Addr} {k : Nat} {xs ys : Array Value} {Q : Option Value → Shared → Prop} (hh : A.handled = none) (D : ZipApart z TI TO i1 i2 l1 l2) (Z : ZT s.heap z TI TO i1 i2 l1 l2 xs ys k) (hend : xs[k]? = none ∨ ys[k]? = none)
    (hQ : ∀ h', (∀ c o, c ≠ z → c ≠ TO → c ≠ i1 → c ≠ i2 → s.heap.get? c = some o → h'.get? c = some o) → Q none { s with heap := h' }) : wpAny (model prog w) A (pyNext (.ref z)) Q E s := by
  obtain ⟨st, ti, h1, h2, hl1, hl2⟩ := Z
  rcases st with ⟨hz, a, b, hTO⟩ | ⟨T, f, ta, tb, hz, hT, nz, n1, n2⟩
  · exact RZ.pyNext_zipT_end hh D hz ti hTO h1 h2 hl1 hl2 hend hQ
  · have hTy : s.TypeIs (.ref z) "zip" := ⟨_, hz, rfl⟩
    have fin : ∀ h' e, (∀ c o, c ≠ z → c ≠ i1 → c ≠ i2 → s.heap.get? c = some o → h'.get? c = some o) → (∃ o, h'.get? e = some o ∧ o.cls = .type "StopIteration") →
        wpAny (model prog w) A (do if (← isInstance (.ref e) (.type "StopIteration")) then pure none else throw (.ref e)) Q E { s with heap := h' } := fun h' e hk ⟨o, ho, hc⟩ =>
      wpAny_bind (wpAny_isInstance (T := "StopIteration") (b := true) ⟨o, ho, hc⟩ isSubtype_stop (wpAny_pure (hQ _ fun c o c1 _ c2 c3 x => hk c o c1 c2 c3 x)))
    unfold pyNext
    refine wpAny_bind (wpAny_attempt (wpAny_callSpecial?_slot (name := Str.ofString "__next__") hTy F.slot_zip_next (wpAny_call_entry F.slot_zip_next hTy F.entry_zip_next ?_ (F.args_zip_next_1 _))))
    show wpAny _ _ (field (.ref z) 2 >>= _) _ _ _
    refine wpAny_bind (wpAny_field hz rfl (x := .bool false) rfl ?_)
    show wpAny _ _ (field (.ref z) 3 >>= _) _ _ _
    refine wpAny_bind (wpAny_field hz rfl (x := .ref TI) rfl (wpAny_bind (wpAny_seqItems ti rfl ?_)))
    show wpAny _ _ (Builtin.SmallTypes.ownedTupleIsFree (.ref z) >>= _) _ _ _
    refine wpAny_bind (wpAny_tupleHeld_zip hz hT fun h₁ hz₁ hs₁ => ?_)
    simp only [Bool.false_eq_true, if_false]
    refine wpAny_bind ?_
    rw [← Array.forIn_toList]
    simp only [List.forIn_cons, List.forIn_nil]
    refine wpAny_bind (wpAny_bind (wpAny_holding ?_))
    show wpAny _ _ (Builtin.SmallTypes.nextOf (.ref i1) >>= _) _ _ _
    cases hx : xs[k]? with
    | none => exact wpAny_bind (RZ.nextOf_tuple_end (s := { s with heap := h₁ }) hh (h1.extBut hs₁.extBut D.i1z) (hl1.extBut hs₁.extBut D.l1z) hx fun h₂ e hs₂ he => fin h₂ e (fun c o c1 c2 _ x => hs₂ _ _ c2 (hs₁.extBut _ _ c1 x)) he)
    | some x =>
      have hy : ys[k]? = none := hend.resolve_left (by rw [hx]; exact fun q => by cases q)
      refine wpAny_bind (RZ.nextOf_tuple_item (s := { s with heap := h₁ }) (h1.extBut hs₁.extBut D.i1z) (hl1.extBut hs₁.extBut D.l1z) hx fun h₂ h1₂ hs₂ => wpAny_pure (wpAny_pure ?_))
      refine wpAny_bind (wpAny_bind (wpAny_holding ?_))
      show wpAny _ _ (Builtin.SmallTypes.nextOf (.ref i2) >>= _) _ _ _
      exact wpAny_bind (RZ.nextOf_tuple_end (s := { s with heap := h₂ }) hh ((h2.extBut hs₁.extBut D.i2z).extBut hs₂.extBut D.i12.symm) ((hl2.extBut hs₁.extBut D.l2z).extBut hs₂.extBut D.l2i1) hy fun h₃ e hs₃ he =>
        fin h₃ e (fun c o c1 c2 c3 x => hs₃ _ _ c3 (hs₂.extBut _ _ c2 (hs₁.extBut _ _ c1 x))) he)
theorem ne_cls {h : Heap} {a b : Addr} {o o' : Obj} (e : h.get? a = some o) (e' : h.get? b = some o') (c : o.cls ≠ o'.cls) : a ≠ b := fun z => by
  rw [z, e'] at e
  cases e
  exact c rfl
theorem ZT.keep {h h' : Heap} {z TI TO i1 i2 l1 l2 S : Addr} {xs ys : Array Value} {i : Nat} {o : Obj} (Z : ZT h z TI TO i1 i2 l1 l2 xs ys i) (hS : h.get? S = some o) (hc : o.cls = .type "list") (k : ∀ b u, b ≠ S → h.get? b = some u → h'.get? b = some u) : ZT h' z TI TO i1 i2 l1 l2 xs ys i := by
  have kk : ∀ {b : Addr} {u : Obj}, h.get? b = some u → u.cls ≠ .type "list" → h'.get? b = some u := fun {b u} e c => k b u (ne_cls e hS (by rw [hc]; exact c)) e
  have kp : ∀ {T : Addr} {a b : Value}, IsPair h T a b → IsPair h' T a b := fun e => kk e (show Value.type "tuple" ≠ Value.type "list" by decide)
  obtain ⟨st, ti, ⟨o1, e1, c1, d1⟩, ⟨o2, e2, c2, d2⟩, ⟨o3, e3, c3, d3⟩, ⟨o4, e4, c4, d4⟩⟩ := Z
  refine ⟨?_, kp ti, ⟨o1, kk e1 (by rw [c1]; decide), c1, d1⟩, ⟨o2, kk e2 (by rw [c2]; decide), c2, d2⟩, ⟨o3, kk e3 (by rw [c3]; decide), c3, d3⟩, ⟨o4, kk e4 (by rw [c4]; decide), c4, d4⟩⟩
  rcases st with ⟨hz, a, b, hTO⟩ | ⟨T, f, ta, tb, hz, hT, n⟩
  · exact .inl ⟨kk hz (show Value.type "zip" ≠ Value.type "list" by decide), a, b, kp hTO⟩
  · exact .inr ⟨T, f, ta, tb, kk hz (show Value.type "zip" ≠ Value.type "list" by decide), kp hT, n⟩
structure PrsZ (xs ys : Array Value) (lo : Addr) (h : Heap) (as : List Addr) : Prop where
  rise : as.Pairwise (· < ·)
  above : ∀ a ∈ as, lo < a
  pairs : ∀ (j : Nat) (a : Addr), as[j]? = some a → ∃ x y, xs[j]? = some x ∧ ys[j]? = some y ∧ IsPair h a x y
theorem PrsZ.there {xs ys : Array Value} {lo : Addr} {h : Heap} {as : List Addr} (g : PrsZ xs ys lo h as) {a : Addr} (ha : a ∈ as) : a < h.objs.size := by
  obtain ⟨j, hj⟩ := List.mem_iff_getElem?.mp ha
  obtain ⟨_, _, _, _, e⟩ := g.pairs j a hj
  exact Heap.lt_size e
theorem zl_loop {R : Result → Shared → Prop} {z TI TO i1 i2 l1 l2 S : Addr} {xs ys : Array Value} {n : Nat} (hh : A.handled = none) (D : ZipApart z TI TO i1 i2 l1 l2) (hn : n = min xs.size ys.size) (hz : n ≤ sizeLine) (lo : z < S ∧ TO < S ∧ i1 < S ∧ i2 < S) (res : Value) {h₁ : Heap}
    (hR : ∀ h' tk acc c as, (∀ b o, b ≠ S → b ≠ z → b ≠ TO → b ≠ i1 → b ≠ i2 → h₁.get? b = some o → h'.get? b = some o) → h'.get? S = some { cls := .type "list", dict := none, data := .seq acc c, slots := #[] } → as.length = n → PrsZ xs ys S h' as →
      acc.toList = as.map Value.ref → R (.ok (.ret res)) { s with heap := h', toks := tk }) :
    ∀ (k i : Nat) (h : Heap) (tk c : Nat) (acc : Array Value) (as : List Addr), n - i = k → i ≤ n → ZT h z TI TO i1 i2 l1 l2 xs ys i → (∀ b o, b ≠ S → b ≠ z → b ≠ TO → b ≠ i1 → b ≠ i2 → h₁.get? b = some o → h.get? b = some o) →
      h.get? S = some { cls := .type "list", dict := none, data := .seq acc c, slots := #[] } → acc.toList = as.map Value.ref → as.length = i → PrsZ xs ys S h as →
      codeAny (model prog w) A (.builtin "list.extend.loop" ⟨[.ref S, .ref z, res], []⟩) R { s with heap := h, toks := tk } := by
  have nS : S ≠ z ∧ S ≠ TO ∧ S ≠ i1 ∧ S ≠ i2 := ⟨Nat.ne_of_gt lo.1, Nat.ne_of_gt lo.2.1, Nat.ne_of_gt lo.2.2.1, Nat.ne_of_gt lo.2.2.2⟩
  have nP : ∀ {a : Addr}, S < a → a ≠ z ∧ a ≠ TO ∧ a ≠ i1 ∧ a ≠ i2 := fun {a} h => ⟨Nat.ne_of_gt (Nat.lt_trans lo.1 h), Nat.ne_of_gt (Nat.lt_trans lo.2.1 h), Nat.ne_of_gt (Nat.lt_trans lo.2.2.1 h), Nat.ne_of_gt (Nat.lt_trans lo.2.2.2 h)⟩
  intro k
  induction k with
  | zero =>
    intro i h tk c acc as hk hi Z hkeep hS hacc hal hG
    refine codeAny_builtin PySem.F.entry_extend_loop ?_
    rw [Around.under_plainId PySem.F.plain_extend_loop _]
    show wpAny _ A.in1 (pyNext (.ref z) >>= _) _ _ _
    refine wpAny_bind (zipT_done (s := { s with heap := h, toks := tk }) (A := A.in1) hh D Z (by
      by_cases hx : i < xs.size
      · exact .inr (Array.getElem?_eq_none (by omega))
      · exact .inl (Array.getElem?_eq_none (by omega))) fun h' he => ?_)
    refine wpAny_pure (hR h' tk acc c as (fun b o c1 c2 c3 c4 c5 e => he b o c2 c3 c4 c5 (hkeep b o c1 c2 c3 c4 c5 e)) (he S _ nS.1 nS.2.1 nS.2.2.1 nS.2.2.2 hS) (by omega) ⟨hG.rise, hG.above, fun j a hj => ?_⟩ hacc)
    obtain ⟨x, y, e1, e2, e3⟩ := hG.pairs j a hj
    obtain ⟨q1, q2, q3, q4⟩ := nP (hG.above a (List.mem_of_getElem? hj))
    exact ⟨x, y, e1, e2, he a _ q1 q2 q3 q4 e3⟩
  | succ k ih =>
    intro i h tk c acc as hk hi Z hkeep hS hacc hal hG
    have hlt : i < xs.size ∧ i < ys.size := by omega
    have hsz : acc.size = i := by rw [← Array.length_toList, hacc, List.length_map, hal]
    refine codeAny_builtin PySem.F.entry_extend_loop ?_
    rw [Around.under_plainId PySem.F.plain_extend_loop _]
    show wpAny _ A.in1 (pyNext (.ref z) >>= _) _ _ _
    refine wpAny_bind (zipT_item (s := { s with heap := h, toks := tk }) (A := A.in1) D Z (Array.getElem?_eq_getElem hlt.1) (Array.getElem?_eq_getElem hlt.2) fun h' Z' hp hz' hkp => ?_)
    have hS' := hkp S _ nS.1 nS.2.1 nS.2.2.1 nS.2.2.2 hS
    have up : ∀ b o, b ≠ S → h'.get? b = some o → (h'.update S (Obj.mapSeq (·.push (Value.ref h.objs.size)))).get? b = some o := fun b o hb e => (Heap.get?_update_other _ _ (Ne.symm hb)).trans e
    have hSl : S < h.objs.size := Heap.lt_size hS
    show wpAny _ A.in1 (updateSeq S (·.push (Value.ref h.objs.size)) >>= _) _ _ _
    refine wpAny_bind ?_
    refine wpAny_updateSeq hS' rfl (wpAny_pure ⟨plainId_quiet PySem.F.plain_extend_loop _, ih (i + 1) _ tk _ (acc.push (Value.ref h.objs.size)) (as ++ [h.objs.size]) (by omega) (by omega) (Z'.keep hS' rfl up)
      (fun b o c1 c2 c3 c4 c5 e => up b o c1 (hkp b o c2 c3 c4 c5 (hkeep b o c1 c2 c3 c4 c5 e))) (Heap.get?_update_self _ hS' rfl) (by rw [Array.toList_push, hacc, List.map_append]; rfl) (by rw [List.length_append, hal]; rfl) ⟨?_, ?_, ?_⟩⟩) (by rw [hsz]; omega) (by show (acc.push (Value.ref h.objs.size)).size ≤ sizeLine + 1; rw [Array.size_push]; omega)
    · refine List.pairwise_append.mpr ⟨hG.rise, List.pairwise_singleton _ _, fun a ha b hb => ?_⟩
      rw [List.mem_singleton.mp hb]
      exact hG.there ha
    · intro a ha
      rcases List.mem_append.mp ha with ha | ha
      · exact hG.above a ha
      · rw [List.mem_singleton.mp ha]; exact hSl
    · intro j b hj
      by_cases h1 : j < as.length
      · rw [List.getElem?_append_left h1] at hj
        obtain ⟨x, y, e1, e2, e3⟩ := hG.pairs j b hj
        have hb := hG.above b (List.mem_of_getElem? hj)
        obtain ⟨q1, q2, q3, q4⟩ := nP hb
        exact ⟨x, y, e1, e2, up b _ (Nat.ne_of_gt hb) (hkp b _ q1 q2 q3 q4 e3)⟩
      · rw [List.getElem?_append_right (by omega)] at hj
        have ej : j = as.length := by
          by_cases h2 : j - as.length = 0
          · omega
          · rw [List.getElem?_eq_none (by simp; omega)] at hj
            cases hj
        subst ej
        have hb : h.objs.size = b := by simpa using hj
        subst hb
        subst hal
        exact ⟨_, _, Array.getElem?_eq_getElem hlt.1, Array.getElem?_eq_getElem hlt.2, up _ _ (Nat.ne_of_gt hSl) hp⟩
theorem zip_no_len : typeLookup (.type "zip") "__len__" = pure none := by rw [typeLookup_type, builtinLookup_eq_fast]; kernel_rfl
theorem zip_no_hint : typeLookup (.type "zip") "__length_hint__" = pure none := by rw [typeLookup_type, builtinLookup_eq_fast]; kernel_rfl
theorem zl_call {Q : Value → Shared → Prop} {z TI TO i1 i2 l1 l2 : Addr} {xs ys : Array Value} (hh : A.handled = none) (D : ZipApart z TI TO i1 i2 l1 l2) (Z : ZT s.heap z TI TO i1 i2 l1 l2 xs ys 0) (hz0 : ∃ f, IsZip s.heap z TI TO f) (hzl : min xs.size ys.size ≤ sizeLine) (hTO : TO < s.heap.objs.size)
    (hQ : ∀ h' tk acc c as, (∀ b o, b ≠ z → b ≠ TO → b ≠ i1 → b ≠ i2 → s.heap.get? b = some o → h'.get? b = some o) → h'.get? s.heap.objs.size = some { cls := .type "list", dict := none, data := .seq acc c, slots := #[] } → as.length = min xs.size ys.size → PrsZ xs ys s.heap.objs.size h' as →
      acc.toList = as.map Value.ref → Q (.ref s.heap.objs.size) { s with heap := h', toks := tk }) :
    wpAny (model prog w) A (call (.type "list") [.ref z]) Q E s := by
  obtain ⟨f0, hz0⟩ := hz0
  have lt1 : i1 < s.heap.objs.size := by obtain ⟨o, e, _⟩ := Z.h1; exact Heap.lt_size e
  have lt2 : i2 < s.heap.objs.size := by obtain ⟨o, e, _⟩ := Z.h2; exact Heap.lt_size e
  have ltz : z < s.heap.objs.size := Heap.lt_size hz0
  refine callType_codes (Q₁ := fun obj s₁ => obj = .ref s.heap.objs.size ∧ s₁ = { s with heap := s.heap.push { cls := .type "list", data := .seq #[] } }) F.called_list (F.typeCall_list_1 _) F.entry_list_init
    (code_list_new _ ⟨rfl, rfl⟩) fun obj s₁ h₁ => ?_
  obtain ⟨rfl, rfl⟩ := h₁
  generalize hSd : s.heap.objs.size = S at *
  have hS : (s.heap.push { cls := .type "list", data := .seq #[] }).get? S = some { cls := .type "list", data := .seq #[] } := by rw [← hSd]; exact Heap.get?_push_size _ rfl
  have kp0 : ∀ b o, s.heap.get? b = some o → (s.heap.push { cls := .type "list", data := .seq #[] }).get? b = some o := fun b o e => Heap.get?_push_of_some _ e
  have nS : ∀ b o, s.heap.get? b = some o → b ≠ S := fun b o e => by rw [← hSd]; exact Nat.ne_of_lt (Heap.lt_size e)
  have zz : ∀ h' : Heap, (∀ b o, b ≠ S → (s.heap.push { cls := .type "list", data := .seq #[] }).get? b = some o → h'.get? b = some o) → (∀ b o, s.heap.get? b = some o → h'.get? b = some o) := fun h' k b o e => k b o (nS b o e) (kp0 b o e)
  refine ⟨⟨_, hS, rfl⟩, F.args_list_init_2 _ _, ?_⟩
  show wpAny _ _ (do let old ← Builtin.List.listItems (.ref S); Builtin.List.listUpdate (.ref S) (fun _ => #[]); letGo old.toList.reverse; Builtin.List.listExtendWith (.ref S) (.ref z) .none) _ _ _
  refine wpAny_bind ?_
  unfold Builtin.List.listItems
  refine wpAny_bind (wpAny_seqItems hS rfl (wpAny_pure ?_))
  show wpAny _ _ (updateSeq S (fun _ => #[]) >>= fun _ => letGo (#[] : Array Value).toList.reverse >>= fun _ => Builtin.List.listExtendWith (.ref S) (.ref z) .none) _ _ _
  refine wpAny_bind (wpAny_updateSeq hS rfl ?_)
  have hS₂ := Heap.get?_update_self (Obj.mapSeq (fun _ => (#[] : Array Value))) hS rfl
  refine wpAny_bind (wpAny_letGo ?_)
  unfold Builtin.List.listExtendWith
  have e2 : ∀ b o, s.heap.get? b = some o → ((s.heap.push { cls := .type "list", data := .seq #[] }).update S (Obj.mapSeq (fun _ => (#[] : Array Value)))).get? b = some o := fun b o e => (Heap.get?_update_other _ _ (Ne.symm (nS b o e))).trans (kp0 b o e)
  have hTz : ∀ {h : Heap} {g d tk os}, (∀ b o, s.heap.get? b = some o → h.get? b = some o) → (Shared.TypeIs ⟨h, g, d, tk, os⟩ (.ref z) "zip") := fun {h g d tk os} k => ⟨_, k _ _ hz0, rfl⟩
  refine wpAny_bind (wpAny_typeOf (hTz e2) ?_)
  have h1 : Builtin.List.listSameRef (.ref S) (.ref z) = false := by simp [Builtin.List.listSameRef, Nat.ne_of_gt ltz]
  have h2 : (Value.type "zip" == Value.type "list") = false := by decide
  have h3 : (Value.type "zip" == Value.type "tuple") = false := by decide
  simp only [h1, h2, h3, Bool.or_false, Bool.false_eq_true, if_false]
  have ZK : ∀ h' : Heap, (∀ b o, s.heap.get? b = some o → h'.get? b = some o) → ZT h' z TI TO i1 i2 l1 l2 xs ys 0 := fun h' k => by
    obtain ⟨st, ti, ⟨o1, e1, c1⟩, ⟨o2, e2, c2⟩, ⟨o3, e3, c3⟩, ⟨o4, e4, c4⟩⟩ := Z
    refine ⟨?_, k _ _ ti, ⟨o1, k _ _ e1, c1⟩, ⟨o2, k _ _ e2, c2⟩, ⟨o3, k _ _ e3, c3⟩, ⟨o4, k _ _ e4, c4⟩⟩
    rcases st with ⟨hz, a, b, hTO⟩ | ⟨T, f, ta, tb, hz, hT, n⟩
    · exact .inl ⟨k _ _ hz, a, b, k _ _ hTO⟩
    · exact .inr ⟨T, f, ta, tb, k _ _ hz, k _ _ hT, n⟩
  refine wpAny_bind (wpAny_pyIter_zip (e2 _ _ hz0) ?_)
  refine wpAny_bind (wpAny_holding ?_)
  unfold Builtin.List.listLengthHint
  refine wpAny_bind (wpAny_specialOf (hTz e2) zip_no_len ?_)
  show wpAny _ _ (specialOf (Value.ref z) (Str.ofString "__length_hint__") >>= _) _ _ _
  refine wpAny_bind (wpAny_specialOf (hTz e2) zip_no_hint ?_)
  refine wpAny_pure ?_
  show wpAny _ _ (rule "list.extend.makes-room" >>= fun _ => Builtin.List.listTouch (.ref S) >>= fun _ =>
    again (.builtin "list.extend.loop" ⟨[.ref S, .ref z, .none], []⟩)) _ _ _
  refine wpAny_bind (wpAny_rule (wpAny_bind ?_))
  show wpAny _ _ (updateSeq S (·.push .none) >>= fun _ => updateSeq S (·.pop)) _ _ _
  refine wpAny_bind (wpAny_updateSeq hS₂ rfl ?_)
  have hS₃ := Heap.get?_update_self (Obj.mapSeq (·.push Value.none)) hS₂ rfl
  refine wpAny_updateSeq (hz := by seq_fits) hS₃ rfl ?_
  have hS₄ := Heap.get?_update_self (Obj.mapSeq (·.pop)) hS₃ rfl
  have e4 : ∀ b o, s.heap.get? b = some o → ((((s.heap.push { cls := .type "list", data := .seq #[] }).update S (Obj.mapSeq (fun _ => (#[] : Array Value)))).update S (Obj.mapSeq (·.push Value.none))).update S (Obj.mapSeq (·.pop))).get? b = some o := fun b o e =>
    (Heap.get?_update_other _ _ (Ne.symm (nS b o e))).trans ((Heap.get?_update_other _ _ (Ne.symm (nS b o e))).trans (e2 b o e))
  refine wpAny_pure ⟨plainId_quiet F.plain_extend_loop _, ?_⟩
  refine zl_loop (prog := prog) (w := w) (A := A.in1) (s := s) (R := wants (fun r s₂ => r = .none ∧ Q (.ref S) s₂) E) (h₁ := s.heap) (n := min xs.size ys.size) hh D rfl hzl ⟨ltz, hTO, lt1, lt2⟩ .none (fun h' tk acc c as k1 k2 k3 k4 k5 => ⟨rfl, hQ h' tk acc c as (fun b o c2 c3 c4 c5 e => k1 b o (nS b o e) c2 c3 c4 c5 e) k2 k3 k4 k5⟩)
    (min xs.size ys.size) 0 _ _ _ #[] [] (by omega) (by omega) (ZK _ e4) (fun b o _ _ _ _ _ e => e4 b o e) hS₄ rfl rfl ⟨List.Pairwise.nil, (fun _ ha => nomatch ha), (fun j a hj => by simp at hj)⟩
end
theorem Alc.trans {w w1 w2 : Wo} (a : Alc w w1) (b : Alc w1 w2) : Alc w w2 where
  lam := b.lam.trans a.lam
  h := a.h.trans b.h
  g := a.g.trans b.g
  sub := b.sub
  gnew := fun x h1 h2 => b.gnew x (fun z => by
    cases q : w.H x with
    | none => exact h1 q
    | some o => rw [a.h x o q] at z; cases z) (a.gnew x h1 h2)
  notb := b.notb
section
variable {X : Cx} {T : Tb} {W : WX}
theorem put_pairs : ∀ (as : List Addr) {w : Wo} {S : List MO} {vs us : List V} {ds es : List D}, Wd T w S → as.length = min vs.length us.length → as.Nodup → (∀ a ∈ as, w.H a = none) → RepA T w.lam w.G ds vs → RepA T w.lam w.G es us →
    ∃ w' : Wo, Alc w w' ∧ RepA T w'.lam w'.G (zipD ds es) (as.map V.ref) ∧ (∀ b, b ∉ as → w'.H b = w.H b) ∧ ∀ (j : Nat) (a : Addr), as[j]? = some a → ∃ x y, vs[j]? = some x ∧ us[j]? = some y ∧ w'.H a = some (.tup [x, y])
  | [], w, S, vs, us, ds, es, d, hl, _, _, r, r' => by
    refine ⟨w, .refl d, ?_, fun _ _ => rfl, fun j a e => by simp at e⟩
    have z : zipD ds es = [] := by
      have h1 := r.length
      have h2 := r'.length
      apply List.eq_nil_of_length_eq_zero
      simp only [zipD, List.length_zipWith, h1, h2]
      simpa using hl.symm
    rw [z]
    exact .nil
  | a :: as, w, S, vs, us, ds, es, d, hl, hn, hf, r, r' => by
    cases r with
    | nil => simp at hl
    | cons hx rr =>
      cases r' with
      | nil => simp at hl
      | cons hy rr' =>
        rename_i dx x ds vs dy y es us
        have hn' := List.nodup_cons.mp hn
        obtain ⟨al, rp⟩ := new_pair d (hf a (List.mem_cons_self ..)) hx hy
        have d1 := d.alc al
        have fr : ∀ b ∈ as, (w.put a (.tup [x, y])).H b = none := fun b hb => by
          show upd w.H a _ b = none
          rw [upd_ne (fun z => hn'.1 (by rw [← z]; exact hb))]
          exact hf b (List.mem_cons_of_mem _ hb)
        obtain ⟨w', al2, r2, off, at_⟩ := put_pairs as d1 (by simp at hl; omega) hn'.2 fr (rr.ext al.ext) (rr'.ext al.ext)
        refine ⟨w', al.trans al2, .cons (rp.ext al2.ext) r2, fun b hb => ?_, fun j b e => ?_⟩
        · rw [off b (fun z => hb (List.mem_cons_of_mem _ z))]
          show upd w.H a _ b = w.H b
          rw [upd_ne (fun z => hb (by rw [z]; exact List.mem_cons_self ..))]
        · cases j with
          | zero =>
            cases e
            refine ⟨x, y, rfl, rfl, ?_⟩
            rw [off a hn'.1]
            exact upd_same
          | succ j =>
            obtain ⟨x', y', e1, e2, e3⟩ := at_ j b (by simpa using e)
            exact ⟨x', y', by simpa using e1, by simpa using e2, e3⟩
theorem lay_many {pins : List (Addr × Obj)} {σ : L2.St} {H H' : Hp} {s : Shared} {h' : Heap} {tk : Nat} (I : Inv X pins σ H s) (hk : ∀ b o, s.heap.get? b = some o → h'.get? b = some o) (kp : ∀ b u, H b = some u → H' b = some u)
    (nw : ∀ b u, H' b = some u → H b = some u ∨ (s.heap.objs.size ≤ b ∧ ObjOk X.prog X.w H' h' b u)) : Inv X pins σ H' { s with heap := h', toks := tk } := by
  refine I.call' (ch := []) rfl ⟨fun b o q _ _ _ => hk b o q, fun b o q _ _ _ => ⟨o.slots, hk b o q⟩, fun b o q n _ => ?_, fun b o q _ => ⟨o, hk b o q⟩, fun b xs q => kp b _ q, fun b o u q => kp b _ q, fun b ps q => ⟨#[], by rw [kp b _ q]; simp⟩⟩ (fun b u q => ?_) I.bare fun b z => by simp at z
  · cases e : H' b with
    | none => rfl
    | some u =>
      rcases nw b u e with e' | ⟨e', _⟩
      · rw [n] at e'; cases e'
      · exact absurd (Heap.lt_size q) (Nat.not_lt.mpr e')
  · rcases nw b u q with e | ⟨_, e⟩
    · exact (I.hok b u e).stay (fun d v _ y => hk d v y) (fun d y => kp d _ y) fun d xs y => kp d _ y
    · exact e
def zipTM : List D → M D
  | [.tup xs, .tup ys] => pure (.lst (zipD xs ys))
  | _ => M.bad
def zipE (h : AF) : EF := fun sd => h sd >>= zipTM
theorem xzipl {a b : Expr} {p p2 pos2 pos : Pos} {h : AF} (hm : X.mg "list" = none) (hm2 : X.mg "zip" = none) (ha : PA X [a, b] (tML T W h)) (k : Lk T X := by exact ⟨rfl, rfl, rfl⟩) (hc : X.calm = true := by rfl) (hg : Gl X "list" := by rfl) (hg2 : Gl X "zip" := by rfl)
    (hs : starEach [.Call (.Name "zip" p2) [a, b] [] pos2] X.env = (false, eval (.Call (.Name "zip" p2) [a, b] [] pos2) X.env) :: starEach [] X.env := by rfl)
    (hs2 : starEach [a, b] X.env = (false, eval a X.env) :: starEach [b] X.env := by rfl) (hpl : (backTo pos2 (starEach [b] X.env)).any (·.1) = false := by rfl) :
    PE X (.Call (.Name "list" p) [.Call (.Name "zip" p2) [a, b] [] pos2] [] pos) (tM T W (zipE h)) := by
  refine ⟨fun pins s σ H Q I hq => ?_⟩
  refine wpAny_Call_Name_kw (ld_blt I hg hm (u := .type "list") (by decide +kernel) ?_)
  refine PyProof.Rows.callWith_type1 ?_ hs rfl
  rw [hs]
  show wpAny _ _ (spliced ((false, eval (.Call (.Name "zip" p2) [a, b] [] pos2) X.env) :: backTo pos (starEach [] X.env))) _ _ s
  refine Calls.spliced_cons ?_
  have q1 : tR T W (fun w ds vs => RepA T w.lam w.G ds vs) h σ H fun vs H1 => ∃ w S ds, w.H = H1 ∧ Wd T w S ∧ RepA T w.lam w.G ds vs ∧ PG T (fun c d H' => W c d σ H') (RepV T) Q w (zipTM ds S) :=
    tR_bnd (f := h) (k := fun _ ds => zipTM ds) hq fun sd S1 ds vs w1 d1 s1 r1 h1 => ⟨w1, S1, ds, rfl, d1, r1, h1⟩
  refine Call_ (ld_blt I hg2 hm2 PyProof.Rows.boot_zip (PyProof.Rows.callWith_type1 (thn (ha.run pos2 pins s σ H _ I q1) fun us s1 ⟨vs, H1, I1, r1, w1, S1, ds, e1, d1, rr, q⟩ => ?_) hs2 hpl))
  subst e1
  match ds, q, rr with
  | [.tup ds, .tup es], q, .cons (.tup (a := l1) (vs := vs) t1 ra) (.cons (.tup (a := l2) (vs := us') t2 rb) .nil) =>
    cases r1 with
    | cons r rr =>
      cases rr with
      | cons r' rr =>
        cases rr
        cases r
        cases r'
        obtain ⟨its, rv, p1, z1⟩ := I1.tuple (by rw [k.K]; exact same_seqT d1.sub t1)
        obtain ⟨its2, rv2, p2', z2⟩ := I1.tuple (by rw [k.K]; exact same_seqT d1.sub t2)
        have lt1 : l1 < s1.heap.objs.size := by obtain ⟨o, e, _⟩ := p1; exact Heap.lt_size e
        have lt2 : l2 < s1.heap.objs.size := by obtain ⟨o, e, _⟩ := p2'; exact Heap.lt_size e
        have p1t : s1.heap.IsTuple l1 its.toArray := p1
        have p2t : s1.heap.IsTuple l2 its2.toArray := p2'
        refine RZ.call_zipT p1 p2' fun h' hz hTI hTO h1 h2 hsz hk => ?_
        refine Calls.spliced_nil ?_
        have nb : ∀ {b : Addr} {o : Obj}, s1.heap.get? b = some o → b ≠ s1.heap.objs.size + 4 ∧ b ≠ s1.heap.objs.size + 3 ∧ b ≠ s1.heap.objs.size ∧ b ≠ s1.heap.objs.size + 1 := fun {b o} e =>
          have h0 := Heap.lt_size e
          ⟨Nat.ne_of_lt (Nat.lt_of_lt_of_le h0 (Nat.le_add_right _ _)), Nat.ne_of_lt (Nat.lt_of_lt_of_le h0 (Nat.le_add_right _ _)), Nat.ne_of_lt h0, Nat.ne_of_lt (Nat.lt_of_lt_of_le h0 (Nat.le_add_right _ _))⟩
        refine zl_call (s := { s1 with heap := h' }) (xs := its.toArray) (ys := its2.toArray) (I1.ok.hd hc) (PySem.W.ktu_apart s1.heap.objs.size l1 l2 lt1 lt2) ⟨.inl ⟨hz, _, _, hTO⟩, hTI, h1, h2, p1t.at fun o e => hk _ o e, p2t.at fun o e => hk _ o e⟩ ⟨_, hz⟩ (by rw [List.size_toArray, List.size_toArray, ← rv.length]; omega) (by show _ < h'.objs.size; omega) fun h'' tk acc c as k1 k2 k3 k4 k5 => ?_
        have kk : ∀ b o, s1.heap.get? b = some o → h''.get? b = some o := fun b o e => k1 b o (nb e).1 (nb e).2.1 (nb e).2.2.1 (nb e).2.2.2 (hk b o e)
        have hS : h'.objs.size = s1.heap.objs.size + 5 := hsz
        have ge : ∀ t ∈ as, s1.heap.objs.size ≤ t := fun t ht => by
          have h3 : h'.objs.size < t := k4.above t ht
          rw [hS] at h3
          exact Nat.le_trans (Nat.le_add_right _ 5) (Nat.le_of_lt h3)
        have nd : as.Nodup := List.Pairwise.imp (fun {a b} (h : a < b) => Nat.ne_of_lt h) k4.rise
        have hl : as.length = min vs.length us'.length := by rw [k3, List.size_toArray, List.size_toArray, ← rv.length, ← rv2.length]
        obtain ⟨w2, al, r2, off, at_⟩ := put_pairs as d1 hl nd (fun t ht => I1.hok.fresh (ge t ht)) ra rb
        have hSn : h'.objs.size ∉ as := fun z => Nat.lt_irrefl _ (k4.above _ z)
        have fS : w2.H h'.objs.size = none := by rw [off _ hSn]; exact I1.hok.fresh (by omega)
        obtain ⟨al3, r3⟩ := new_lst (d1.alc al) fS r2
        refine ⟨.ref h'.objs.size, (w2.put h'.objs.size (.lst (as.map V.ref))).H, ?_, rfl, q _ _ (al.trans al3).ext (d1.alc (al.trans al3)) r3⟩
        refine lay_many (s := s1) I1 kk (fun b u e => al3.h _ _ (al.h _ _ e)) fun b u e => ?_
        have e : upd w2.H h'.objs.size (.lst (as.map V.ref)) b = some u := e
        by_cases hb : b = h'.objs.size
        · subst hb
          rw [upd_same] at e
          cases e
          refine .inr ⟨by omega, by rw [List.length_map, hl]; omega, acc.toList, c, by rw [k5]; exact LiI.vals_refs as, ?_⟩
          rw [Array.toArray_toList]
          exact k2
        · rw [upd_ne hb] at e
          by_cases hm : b ∈ as
          · obtain ⟨j, hj⟩ := List.mem_iff_getElem?.mp hm
            obtain ⟨x, y, e1, e2, e3⟩ := at_ j b hj
            rw [e3] at e
            cases e
            obtain ⟨x', y', f1, f2, f3⟩ := k4.pairs j b hj
            obtain ⟨u1, g1, g2⟩ := rv.get e1
            obtain ⟨u2, g3, g4⟩ := rv2.get e2
            have f1' : its[j]? = some x' := by simpa using f1
            have f2' : its2[j]? = some y' := by simpa using f2
            rw [g1] at f1'; cases f1'
            rw [g3] at f2'; cases f2'
            exact .inr ⟨ge b hm, by show 2 ≤ sizeLine; decide, [x', y'], .cons g2 (.cons g4 .nil), ⟨_, f3, rfl, _, rfl⟩⟩
          · rw [off b hm] at e
            exact .inl e
end
end Q
set_option Elab.async false
set_option linter.all false
set_option maxRecDepth 100000
set_option maxHeartbeats 4000000
namespace Q
open PySem PySem.Spec PyProof.Rows L2 LamX
theorem funD_fun {K : PySem.W.Frag} {x : Str} {st : Stmt} {f : Addr} {fd : FuncData} (F : FunD K x x (defArgs st) (defBody st) (defScope st) [] [] f fd) : L2.Fun K x x st f fd := by
  obtain ⟨oc, od, dV, kV, doc, pm, an, cdv, ct, osl, e, lk, hcd, hD, hK⟩ := F.ex
  rcases hD with ⟨_, rfl⟩ | ⟨e, _⟩
  · exact ⟨⟨oc, od, kV, doc, pm, an, cdv, ct, osl, e, by rw [lk, e], hcd⟩, F.kp⟩
  · exact absurd rfl e
def dd (x : Str) (st : Stmt) : He.DefD := ⟨(x, none), x, x, defArgs st, defBody st, defScope st, [], []⟩
/-- an exception's class answers isinstance -/
def excB (K : PySem.W.Frag) (D : Addr) : Bool :=
  decide (PySem.W.findIn K (.ref D) "__getattribute__" = some (some (.builtin "BaseException.__getattribute__"))) && decide (PySem.W.findIn K (.ref D) "__getattr__" = some none) &&
  decide (PySem.W.subIn K (.ref D) (.type "BaseException") = some true) && PySem.W.hasDictIn K D && decide (PySem.W.findIn K (.ref D) "__class__" = some (some (.builtin "object.__class__"))) &&
  decide (PySem.W.specialIn K (.builtin "object.__class__") "__get__" = some (some (.builtin "getset_descriptor.__get__"))) && decide (PySem.W.takesIn K (.builtin "object.__class__") = some true) && decide (PySem.W.mroIn K D (.type "object") = some true)
theorem excB_ok {K : PySem.W.Frag} {D : Addr} (h : excB K D = true) : ExcC K D := by
  unfold excB at h
  simp only [Bool.and_eq_true, decide_eq_true_eq] at h
  obtain ⟨⟨⟨⟨⟨⟨⟨h1, h2⟩, h3⟩, h4⟩, h5⟩, h6⟩, h7⟩, h8⟩ := h
  exact ⟨h1, h2, h3, h4, h5, h6, h7, h8⟩
def kinB (K : PySem.W.Frag) (D : Addr) (x : Str) (b : Bool) : Bool := match PySem.W.nsIn K mainGlobals x with
  | some (some (.ref C)) => decide (PySem.W.kitOne K (.ref D) (.ref C) = some b)
  | some none => (match bootBuiltins x with
    | some (.type n) => decide (x ≠ "__name__") && decide (PySem.W.kitOne K (.ref D) (.type n) = some b)
    | _ => false)
  | _ => false
theorem kinB_ok {T : Tb} {h : Heap} {mg : Str → Option Value} (X : T.K.In h) (G : h.Ns mainGlobals mg) {D : Addr} {x : Str} {b : Bool} (c : kinB T.K D x b = true) : KinN T mg D x b := by
  unfold kinB at c
  split at c
  · rename_i C e
    exact .inl ⟨C, PySem.W.mg_of X G e, of_decide_eq_true c⟩
  · rename_i e
    split at c
    · rename_i n e2
      simp only [Bool.and_eq_true, decide_eq_true_eq] at c
      exact .inr ⟨n, PySem.W.mg_none_of X G e, e2, c.1, c.2⟩
    · cases c
  · cases c
def kinCB (K : PySem.W.Frag) (names : List Str) (D : Addr) (bt : Nat → Bool) : Bool := excB K D && (names.zipIdx.all fun p => kinB K D p.1 (bt p.2))
theorem kinCB_ok {T : Tb} {h : Heap} {mg : Str → Option Value} (X : T.K.In h) (G : h.Ns mainGlobals mg) {names : List Str} {D : Addr} {bt : Nat → Bool} (c : kinCB T.K names D bt = true) : KinC T mg names D bt := by
  unfold kinCB at c
  rw [Bool.and_eq_true, List.all_eq_true] at c
  refine ⟨excB_ok c.1, fun j x hx => kinB_ok X G (c.2 (x, j) ?_)⟩
  rw [List.mem_zipIdx_iff_getElem?]
  exact hx
/-- the exception classes by their numbers -/
def xkB (names : List Str) (bt : Nat → Nat → Bool) (K : PySem.W.Frag) : Bool := (List.range 15).all fun k => match names[k]? with
  | some x => kinCB K names (He.ga K x) (bt k)
  | none => false
theorem xkB_ok {names : List Str} {bt : Nat → Nat → Bool} {K : PySem.W.Frag} (h : xkB names bt K = true) {k : Nat} (hk : k < 15) {x : Str} (hx : names[k]? = some x) : kinCB K names (He.ga K x) (bt k) = true := by
  unfold xkB at h
  have q := List.all_eq_true.mp h k (List.mem_range.mpr hk)
  rw [hx] at q
  exact q
/-- no plain list stands in K -/
def noLst (K : PySem.W.Frag) : Bool := K.all fun p => !decide (p.2.cls = .type "list")
theorem mem_lk {β : Type} : ∀ {l : List (Addr × β)} {a : Addr} {b : β}, l.lookup a = some b → (a, b) ∈ l
  | [], _, _, h => by cases h
  | (c, d) :: l, a, b, h => by
    rw [List.lookup_cons] at h
    by_cases e : a = c
    · subst e
      simp at h
      subst h
      exact List.mem_cons_self ..
    · have e' : (a == c) = false := by simpa using e
      rw [e'] at h
      exact List.mem_cons_of_mem _ (mem_lk h)
theorem noLst_ok {K : PySem.W.Frag} (h : noLst K = true) {a : Addr} {o : Obj} (e : K.lookup a = some o) : o.cls ≠ .type "list" := fun z => by
  unfold noLst at h
  have q := List.all_eq_true.mp h (a, o) (mem_lk e)
  rw [z] at q
  simp at q
def tab5 : Option Value → Value → Value → Value → Value → Option Addr
  | some (.ref P), .str _ _, .int _ _, .bool _, .int _ _ => some P
  | _, _, _, _, _ => none
theorem tab5_ok {a : Option Value} {b c d e : Value} {P : Addr} (h : tab5 a b c d e = some P) : a = some (.ref P) ∧ (∃ x t, b = .str x t) ∧ (∃ x t, c = .int x t) ∧ (∃ x, d = .bool x) ∧ ∃ x t, e = .int x t := by
  unfold tab5 at h
  split at h
  · cases h; exact ⟨rfl, ⟨_, _, rfl⟩, ⟨_, _, rfl⟩, ⟨_, rfl⟩, _, _, rfl⟩
  · cases h
def emptyAt : Option Obj → Bool
  | some ⟨.none, none, .fields us, sl⟩ => decide (us = #[]) && decide (sl = #[])
  | _ => false
theorem emptyAt_ok {o : Option Obj} (h : emptyAt o = true) : o = some { cls := .none, data := .fields #[] } := by
  unfold emptyAt at h
  split at h
  · simp only [Bool.and_eq_true, decide_eq_true_eq] at h
    obtain ⟨h1, h2⟩ := h
    subst h1; subst h2
    rfl
  · cases h
/-- the code of the def x and its table, by the heap -/
def tabAt (g : Addr → Option Obj) (K : PySem.W.Frag) (x : Str) : Bool := match K.lookup (He.ga K x) with
  | some ⟨_, _, .func fd, _⟩ => (match fd.code with
    | .ref c => (match g c with
      | some ⟨.type t, _, .fields vs, _⟩ => decide (t = "code") && (match tab5 vs[11]? (vs.getD 18 .none) (vs.getD 7 .none) (vs.getD 9 .none) (vs.getD 10 .none) with
        | some P => decide (c ≠ P) && decide (vs.getD 11 .none = .ref P) && emptyAt (g P) && decide (K.lookup P = none)
        | none => false)
      | _ => false)
    | _ => false)
  | _ => false
structure TabFact (h : Heap) (K : PySem.W.Frag) (x : Str) : Prop where
  ex : ∃ oc od fd osl c P, K.lookup (He.ga K x) = some ⟨oc, od, .func fd, osl⟩ ∧ fd.code = .ref c ∧ PySem.W.CodeHd h c P ∧ h.get? P = some { cls := .none, data := .fields #[] } ∧ K.lookup P = none
theorem tabAt_ok {h : Heap} {K : PySem.W.Frag} {x : Str} (e : tabAt h.get? K x = true) : TabFact h K x := by
  unfold tabAt at e
  split at e
  · rename_i oc od fd osl hk
    split at e
    · rename_i c hc
      split at e
      · rename_i t dd vs sl ho
        rw [Bool.and_eq_true] at e
        obtain ⟨e0, e⟩ := e
        have e0 := of_decide_eq_true e0
        subst e0
        split at e
        · rename_i P h5
          obtain ⟨h1, ⟨file, tf, h2⟩, ⟨flags, tg, h3⟩, ⟨inF, h4⟩, text, tt, h6⟩ := tab5_ok h5
          simp only [Bool.and_eq_true, decide_eq_true_eq] at e
          obtain ⟨⟨⟨e1, e2⟩, e3⟩, e4⟩ := e
          exact ⟨oc, od, fd, osl, c, P, hk, hc, ⟨_, vs, file, tf, flags, tg, inF, text, tt, ho, rfl, rfl, h1, e2, h2, h3, h4, h6, e1⟩, emptyAt_ok e3, e4⟩
        · cases e
      · cases e
    · cases e
  · cases e
theorem TabFact.keeps {h h' : Heap} {K : PySem.W.Frag} {x : Str} (t : TabFact h K x) (k : ∀ b o, h.get? b = some o → h'.get? b = some o) : TabFact h' K x := by
  obtain ⟨oc, od, fd, osl, c, P, h1, h2, h3, h4, h5⟩ := t.ex
  exact ⟨oc, od, fd, osl, c, P, h1, h2, h3.keeps k, k _ _ h4, h5⟩
/-- what the head says: the defs, the names, what else is asked of the written part, the tables of the defs that make lambdas -/
def obsQ (fa : List He.Fa) (fn : List He.DefD) (xk : PySem.W.Frag → Bool) (lams : List Str) (g : Addr → Option Obj) : He.AlD :=
  ((He.obsD fa fn (He.frG g (He.asD g 2))).1 && (xk (He.frG g (He.asD g 2)) && (noLst (He.frG g (He.asD g 2)) && lams.all fun x => tabAt g (He.frG g (He.asD g 2)) x)), (He.obsD fa fn (He.frG g (He.asD g 2))).2)
structure SaysQ (fa : List He.Fa) (fn : List He.DefD) (xk : PySem.W.Frag → Bool) (lams : List Str) (K : PySem.W.Frag) (h : Heap) : Prop where
  kin : K.In h
  says : He.SaysD fa fn K
  xk : xk K = true
  nol : noLst K = true
  tab : ∀ x ∈ lams, TabFact h K x
def hookQ (fa : List He.Fa) (fn : List He.DefD) (xk : PySem.W.Frag → Bool) (lams : List Str) : PySem.W.Hook where
  α := He.AlD
  obs := fun s => obsQ fa fn xk lams s.heap.get?
  val := fun _ => He.valD fn
  says := fun _ h => ∃ K : PySem.W.Frag, SaysQ fa fn xk lams K h
  of := fun _ s e => by
    have e1 : (obsQ fa fn xk lams s.heap.get?).1 = true := congrArg (fun z : He.AlD => z.1) e
    have e2 : (obsQ fa fn xk lams s.heap.get?).2 = (He.valD fn).2 := congrArg (fun z : He.AlD => z.2) e
    unfold obsQ at e1 e2
    simp only [Bool.and_eq_true] at e1
    obtain ⟨h1, h2, h3, h4⟩ := e1
    exact ⟨_, He.frG_in, Prod.ext h1 e2, h2, h3, fun x hx => tabAt_ok (List.all_eq_true.mp h4 x hx)⟩
  keeps := fun _ _ _ ⟨K, c⟩ k => ⟨K, PySem.W.Frag.In.keeps c.kin k, c.says, c.xk, c.nol, fun x hx => (c.tab x hx).keeps k⟩
theorem obsQ_eq {fa : List He.Fa} {fn : List He.DefD} {xk : PySem.W.Frag → Bool} {lams : List Str} {g : Addr → Option Obj} {s : Shared} (h : ∀ a, g a = s.heap.get? a) : obsQ fa fn xk lams g = (hookQ fa fn xk lams).obs s := by
  have e : g = s.heap.get? := funext h
  rw [e]
  rfl
/-- the end: the law's run gives True on every list of numbers -/
theorem walk_ofQ {l : PySem.W.OpenLaw} {n k : Nat} {q : Program} {loose : List Str} {XP : (Str → Option Value) → Heap → Prop} {YP : World → Heap → Prop} {d : DefRec} {x : Str} {g : List D → M D}
    (hn : l.most = some n) (hn2 : n ≤ sizeLine) (hdf : d.params.defaults = []) (hr : Room k callerA)
    (F : ∀ (w : World) (mg : Str → Option Value) (h : Heap), YP w h → h.Ns mainGlobals mg → ∃ (T : Tb) (idx : Nat) (cs : List (Addr × Addr)), T.P = l.prog ∧ T.w = w ∧ T.K.In h ∧ noLst T.K = true ∧
      (∀ p ∈ cs, h.get? p.2 = some { cls := .none, data := .fields #[] }) ∧ (∀ p ∈ cs, T.K.lookup p.2 = none) ∧ (∀ p ∈ cs, PySem.W.CodeHd h p.1 p.2) ∧ (∀ p ∈ T.tabs, ∃ c, (c, p.1) ∈ cs) ∧
      (∃ a oc od osl fd, mg d.name = some (.ref a) ∧ T.K.lookup a = some ⟨oc, od, .func fd, osl⟩ ∧ ∀ (s : Shared) (u : Value), BindsTo s fd ⟨[u], []⟩ [(x, u)]) ∧
      ∀ base : Heap, T.K.In base → base.Ns mainGlobals mg → (∀ p ∈ cs, TabB base mg p.1 p.2) → FnD T mg base k idx d.name [x] g)
    (G : ∀ ns : List Int, ns.length ≤ n → ∃ S', g [.lst (ns.map .int)] [] = .ok (.bl true) S') :
    PySem.W.WalkO q loose XP YP l.row.toRowW d [] (fun f vs => PySem.call f vs) := by
  refine Att.attach_callB hn hdf fun w s₀ s₁ mg mb fa o pm cd doc a vs ns GG Y ho hd hcd hmg hobj hints hlen hbits hg => ?_
  obtain ⟨T, idx, cs, hP, hw, KX, nol, hT, nT, C, hq, ⟨a0, oc, od, osl, fd, hm0, lk0, hb0⟩, FF⟩ := F w mg _ Y GG.T.g
  subst hw
  have ea : a0 = fa := by
    have z := hm0.symm.trans hmg
    cases z
    rfl
  subst ea
  rw [← hP]
  refine law_callTs (K := T.K) (CX := L2N.CX T.P T.w) (fa := a0) (fd := fd) (x := x) (sp := spD T 1 g) (cs := cs) KX GG.T.g GG.T.b GG.T.builtins GG.T.nolimit hg hT nT C GG.T.bmain hobj hints (Nat.le_trans hlen hn2) hr (fun base h1 h2 h3 => ?_) (fun s u => ?_) (fun H hH hS => ?_) fun H e s' c => ?_
  · obtain ⟨a1, fd1, _, hm1, _, _, ⟨_, _, _, lk1⟩, FN⟩ := (FF base h1 h2 h3).ex
    have z := hm1.symm.trans hmg
    cases z
    have z := lk1.symm.trans lk0
    cases z
    exact FN
  · exact hb0 s u
  · have rd : Rd H a (.lst (ns.map V.int)) := by
      rcases hS with hS | ⟨o, its, m, h1, h2, _⟩
      · exact hS
      · exact absurd h2 (noLst_ok nol h1)
    have rdG : Rd (fun b => if b = a then H a else none) a (.lst (ns.map V.int)) := by
      rcases rd with h | ⟨u, h⟩
      · exact .inl ((if_pos rfl).trans h)
      · exact .inr ⟨u, (if_pos rfl).trans h⟩
    have intsR : ∀ l : List Int, RepA T [] (fun b => if b = a then H a else none) (l.map .int) (l.map V.int) := fun l => by
      induction l with
      | nil => exact .nil
      | cons i l ih => exact .cons (.int i) ih
    obtain ⟨S', hS'⟩ := G ns hlen
    refine ⟨[.lst (ns.map .int)], [], ⟨[], fun b => if b = a then H a else none, H⟩, rfl, rfl, ⟨rfl, List.nodup_nil, fun b o e => ?_, (fun b hb => absurd hb (by simp)), (fun n b m e => by simp at e), fun p hp => ?_, fun b us e => ?_⟩, .cons (.lst rdG (intsR ns)) .nil, ?_⟩
    · have e : (if b = a then H a else none) = some o := e
      by_cases h : b = a
      · rw [if_pos h] at e; show H b = some o; rw [h]; exact e
      · rw [if_neg h] at e; cases e
    · obtain ⟨c, hc⟩ := hq p hp
      exact TabS.nil (hH _ hc)
    · have e : (if b = a then H a else none) = some (HO.tbl us) := e
      by_cases h : b = a
      · rw [if_pos h] at e
        rcases rd with h2 | ⟨u, h2⟩
        · rw [h2] at e; cases e
        · rw [h2] at e; cases e
      · rw [if_neg h] at e; cases e
    · rw [hS']
      intro v w' _ _ r
      cases r
      rfl
  · obtain ⟨_, _, _, _, _, _, _, _, _, _, _, _, z⟩ := c
    exact z.elim
end Q
set_option Elab.async false
set_option linter.all false
set_option maxRecDepth 100000
set_option maxHeartbeats 4000000
namespace Q
open PySem PySem.Spec PyProof.Rows L2
structure GlI (mg : Str → Option Value) (x : Str) (i : Int) : Prop where
  ex : ∃ t, mg x = some (.int i t)
def glB (K : PySem.W.Frag) (x : Str) (i : Int) : Bool := match PySem.W.nsIn K mainGlobals x with
  | some (some (.int j _)) => decide (j = i)
  | _ => false
theorem glB_ok {K : PySem.W.Frag} {h : Heap} {mg : Str → Option Value} (X : K.In h) (G : h.Ns mainGlobals mg) {x : Str} {i : Int} (c : glB K x i = true) : GlI mg x i := by
  unfold glB at c
  split at c
  · rename_i j t e
    have := of_decide_eq_true c
    subst this
    exact ⟨t, PySem.W.mg_of X G e⟩
  · cases c
/-- what else is asked of the written part: numbers that stand in the module -/
def xkG (xk : PySem.W.Frag → Bool) (gs : List (Str × Int)) (K : PySem.W.Frag) : Bool := xk K && gs.all fun p => glB K p.1 p.2
theorem xkG_ok {xk : PySem.W.Frag → Bool} {gs : List (Str × Int)} {K : PySem.W.Frag} (h : xkG xk gs K = true) : xk K = true ∧ ∀ p ∈ gs, glB K p.1 p.2 = true := by
  unfold xkG at h
  rw [Bool.and_eq_true, List.all_eq_true] at h
  exact h
section
variable {X : Cx} {T : Tb} {W : WX}
theorem xG {x : Str} {i : Int} {pos : Pos} (h : GlI X.mg x i) (hg : Gl X x := by rfl) (hd : (x == ("__debug__" : Str)) = false := by decide) : PE X (.Name x pos) (tM T W (litE (.int i))) := by
  obtain ⟨t, e⟩ := h.ex
  exact PE.imp (pe_glob (v := .int i) hg e ⟨t, rfl⟩ hd) fun σ H Q h => tR_pure h fun _ _ => .int i
variable {a b c : Expr} {f g h : EF} {pos : Pos}
theorem jt_chain {op op' : CmpOp} {r r' : D → D → Option D} (ho : OpR X (compareOp op) (rD T r)) (ho' : OpR X (compareOp op') (rD T r')) (ha : PE X a (tMB T W f)) (hb : PE X b (tMB T W g)) (hc : PE X c (tMB T W h)) (hm : lastMarks [op, op'] [b, c] = false) :
    PT X (.Compare a [op, op'] [b, c] pos) (tMT T W (valT (chainE r r' f g h))) := by
  refine PT.imp (pt_chain ho ho' ha hb hc hm) fun σ H Q hh => ?_
  unfold valT chainE at hh
  simp only [bind_as] at hh
  refine tR_bnd (f := f) (k := fun sd x => g sd >>= fun y => chainD r r' x y (h sd) >>= asB) hh fun sd S1 dx x w1 d1 s1 r1 h1 => ?_
  refine ⟨sd, S1, w1, rfl, d1, s1, PG.bnd h1 fun dy S2 y w2 e2 d2 r2 h2 => ?_⟩
  unfold chainD at h2
  simp only [bind_as] at h2
  cases hr : r dx dy with
  | none => rw [hr] at h2; exact h2.elim
  | some d =>
    rw [hr] at h2
    cases d <;> first | exact h2.elim | skip
    rename_i k
    refine ⟨w2, S2, dx, dy, .bl k, rfl, d2, r1.ext e2, r2, hr, fun v w' al rv => ?_⟩
    cases rv
    refine ⟨k, rfl, ?_⟩
    have h3 : PG T (fun c d H' => W c d σ H') (fun _ a b => a = b) Q w2 (((if k then h sd >>= fun t => M.lift (r' dy t) else pure (.bl false)) >>= asB) S2) := h2
    cases k
    · exact ⟨false, rfl, h3 false w' al.ext (d2.alc al) rfl⟩
    · simp only [if_true, bind_as] at h3
      refine ⟨sd, S2, w', rfl, d2.alc al, (s1.ext e2).ext al.ext, PG.bnd (h3.shift al.ext) fun dz S3 z w3 e3 d3 r3 h4 => ?_⟩
      cases hr' : r' dy dz with
      | none => rw [hr'] at h4; exact h4.elim
      | some d' =>
        rw [hr'] at h4
        cases d' <;> first | exact h4.elim | skip
        rename_i k'
        exact ⟨w3, S3, dy, dz, .bl k', rfl, d3, (r2.ext al.ext).ext e3, r3, hr', fun v w'' al' rv' => by
          cases rv'
          exact ⟨k', rfl, h4 k' w'' al'.ext (d3.alc al') rfl⟩⟩
theorem tchain (op op' : CmpOp) (hu : X.A.units + 65 < cLine) (ha : PE X a (tMB T W f)) (hb : PE X b (tMB T W g)) (hc : PE X c (tMB T W h)) (hm : lastMarks [op, op'] [b, c] = false := by with_unfolding_all rfl) (k : Lk T X := by exact ⟨rfl, rfl, rfl⟩) : PT X (.Compare a [op, op'] [b, c] pos) (tMT T W (valT (chainE (cmpD op) (cmpD op') f g h))) := jt_chain (cmp_D hu k op) (cmp_D hu k op') ha hb hc hm
end
def intsD : List D → Option (List Int)
  | [] => some []
  | .int i :: ds => (intsD ds).map (i :: ·)
  | _ :: _ => none
def rowsD : List D → Option (List (List Int))
  | [] => some []
  | .tup ds :: r => (intsD ds).bind fun is => (rowsD r).map (is :: ·)
  | _ :: _ => none
def lenHd : List (List Int) → Nat
  | [] => 1
  | r :: _ => r.length
def rowsOkB (rs : List (List Int)) : Bool := decide (rs.length < 64) && decide (1 ≤ lenHd rs) && rs.all fun r => decide (r.length = lenHd rs) && r.all fun i => decide (0 ≤ i) && decide (i < 64)
def leC (a b : List Int) : Bool := decide (TS.code 64 a ≤ TS.code 64 b)
def usort (rs : List (List Int)) : List (List Int) := rs.eraseDups.mergeSort leC
def setSortD : D → Option D
  | .lst ds => (rowsD ds).bind fun rs => if rowsOkB rs then some (.lst ((usort rs).map fun r => .tup (r.map .int))) else none
  | _ => none
theorem key_unique {α : Type} (key : α → Int) : ∀ {l m : List α}, l.Pairwise (fun a b => key a < key b) → m.Pairwise (fun a b => key a < key b) → (∀ x, x ∈ l ↔ x ∈ m) → l = m
  | [], [], _, _, _ => rfl
  | [], y :: m, _, _, h => absurd ((h y).mpr (List.mem_cons_self ..)) (by simp)
  | x :: l, [], _, _, h => absurd ((h x).mp (List.mem_cons_self ..)) (by simp)
  | x :: l, y :: m, hl, hm, h => by
    rw [List.pairwise_cons] at hl hm
    have e : x = y := by
      have h1 := (h x).mp (List.mem_cons_self ..)
      have h2 := (h y).mpr (List.mem_cons_self ..)
      rcases List.mem_cons.mp h1 with q | q
      · exact q
      · rcases List.mem_cons.mp h2 with r | r
        · exact r.symm
        · have a := hm.1 x q
          have b := hl.1 y r
          omega
    subst e
    congr 1
    refine key_unique key hl.2 hm.2 fun z => ⟨fun hz => ?_, fun hz => ?_⟩
    · rcases List.mem_cons.mp ((h z).mp (List.mem_cons_of_mem _ hz)) with q | q
      · subst q
        have := hl.1 z hz
        omega
      · exact q
    · rcases List.mem_cons.mp ((h z).mpr (List.mem_cons_of_mem _ hz)) with q | q
      · subst q
        have := hm.1 z hz
        omega
      · exact q
theorem code_inj : ∀ {a b : List Int}, a.length = b.length → TS.Bd 64 a → TS.Bd 64 b → TS.code 64 a = TS.code 64 b → a = b
  | [], [], _, _, _, _ => rfl
  | [], _ :: _, h, _, _, _ => by simp at h
  | _ :: _, [], h, _, _, _ => by simp at h
  | x :: a, y :: b, h, ha, hb, e => by
    have hl : a.length = b.length := by simpa using h
    have exy : x = y := by
      rcases Int.lt_trichotomy x y with q | q | q
      · have := TS.code_lt hl ha.tail hb.tail q
        omega
      · exact q
      · have := TS.code_lt hl.symm hb.tail ha.tail q
        omega
    subst exy
    have e' : TS.code 64 a = TS.code 64 b := by
      have h1 := TS.code_same (B := 64) (d := x) hl
      have h2 := TS.code_same (B := 64) (d := x) hl.symm
      have n1 : ¬ TS.code 64 a < TS.code 64 b := fun z => by have := h1.mpr z; omega
      have n2 : ¬ TS.code 64 b < TS.code 64 a := fun z => by have := h2.mpr z; omega
      omega
    rw [code_inj hl ha.tail hb.tail e']
theorem rowsOk_to {rs : List (List Int)} (h : rowsOkB rs = true) : rs.length < 64 ∧ 1 ≤ lenHd rs ∧ ∀ r ∈ rs, r.length = lenHd rs ∧ TS.Bd 64 r := by
  unfold rowsOkB at h
  simp only [Bool.and_eq_true, decide_eq_true_eq, List.all_eq_true] at h
  exact ⟨h.1.1, h.1.2, fun r hr => ⟨(h.2 r hr).1, fun i hi => (h.2 r hr).2 i hi⟩⟩
theorem nodup_erase : ∀ (l : List (List Int)), l.eraseDups.Nodup := by
  intro l
  induction h : l.length using Nat.strongRecOn generalizing l with
  | ind n ih =>
    cases l with
    | nil => simp
    | cons x l =>
      rw [List.eraseDups_cons, List.nodup_cons]
      refine ⟨fun z => ?_, ih _ ?_ _ rfl⟩
      · have := List.mem_eraseDups.mp z
        simp at this
      · rw [← h, List.length_cons]
        have := List.length_filter_le (fun b => !b == x) l
        omega
theorem usort_is {rs L : List (List Int)} (h : rowsOkB rs = true) (hm : ∀ x, x ∈ L ↔ x ∈ rs) (hn : L.Nodup) (hp : L.Pairwise fun a b => TS.code 64 a ≤ TS.code 64 b) : L = usort rs := by
  obtain ⟨_, _, hr⟩ := rowsOk_to h
  have str : ∀ {M : List (List Int)}, (∀ x ∈ M, x ∈ rs) → M.Nodup → M.Pairwise (fun a b => TS.code 64 a ≤ TS.code 64 b) → M.Pairwise fun a b => TS.code 64 a < TS.code 64 b := fun {M} h1 h2 h3 => by
    refine List.Pairwise.imp_of_mem (R := fun a b => TS.code 64 a ≤ TS.code 64 b ∧ a ≠ b) (fun {a b} ha hb z => ?_) (h3.and h2)
    have a1 := hr a (h1 a ha)
    have b1 := hr b (h1 b hb)
    have : TS.code 64 a ≠ TS.code 64 b := fun e => z.2 (code_inj (a1.1.trans b1.1.symm) a1.2 b1.2 e)
    omega
  have mu : ∀ x, x ∈ usort rs ↔ x ∈ rs := fun x => by
    unfold usort
    rw [List.mem_mergeSort, List.mem_eraseDups]
  refine key_unique (TS.code 64) (str (fun x hx => (hm x).mp hx) hn hp) (str (fun x hx => (mu x).mp hx) ?_ ?_) fun x => (hm x).trans (mu x).symm
  · unfold usort
    exact (List.mergeSort_perm _ _).nodup_iff.mpr (nodup_erase rs)
  · unfold usort
    refine List.Pairwise.imp (fun {a b} z => ?_) (List.pairwise_mergeSort (le := leC) (fun a b c h1 h2 => ?_) (fun a b => ?_) rs.eraseDups)
    · unfold leC at z
      exact of_decide_eq_true z
    · unfold leC at *
      simp only [decide_eq_true_eq] at *
      omega
    · unfold leC
      simp only [Bool.or_eq_true, decide_eq_true_eq]
      omega
section
variable {T : Tb} {w : Wo} {S : List MO}
theorem ints_rep {lam : List Addr} {G : Hp} : ∀ {ds : List D} {vs : List V} {is : List Int}, intsD ds = some is → RepA T lam G ds vs → vs = is.map V.int
  | [], _, _, h, .nil => by cases h; rfl
  | .int i :: ds, _, _, h, .cons r rr => by
    simp only [intsD, Option.map_eq_some_iff] at h
    obtain ⟨is, h1, rfl⟩ := h
    cases r
    rw [ints_rep h1 rr]
    rfl
  | .non :: _, _, _, h, _ => by cases h
  | .bl _ :: _, _, _, h, _ => by cases h
  | .str _ :: _, _, _, h, _ => by cases h
  | .lst _ :: _, _, _, h, _ => by cases h
  | .tup _ :: _, _, _, h, _ => by cases h
  | .dct _ _ _ :: _, _, _, h, _ => by cases h
  | .fn _ :: _, _, _, h, _ => by cases h
  | .loc _ :: _, _, _, h, _ => by cases h
theorem repInts {lam : List Addr} {G : Hp} : ∀ l : List Int, RepA T lam G (l.map .int) (l.map V.int)
  | [] => .nil
  | i :: l => .cons (.int i) (repInts l)
theorem rows_rep {lam : List Addr} {G : Hp} : ∀ {ds : List D} {vs : List V} {rs : List (List Int)}, rowsD ds = some rs → RepA T lam G ds vs → ∃ ks : List (Addr × List Int), vs = (ks.map fun p => V.ref p.1) ∧ ks.map (·.2) = rs ∧ ∀ p ∈ ks, SqT T.K G p.1 (p.2.map V.int)
  | [], _, _, h, .nil => by cases h; exact ⟨[], rfl, rfl, fun p hp => by cases hp⟩
  | .tup xs :: ds, _, _, h, .cons r rr => by
    simp only [rowsD, Option.bind_eq_some_iff, Option.map_eq_some_iff] at h
    obtain ⟨is, h1, rs, h2, rfl⟩ := h
    cases r with
    | tup q1 q2 =>
      rename_i a us
      have e := ints_rep h1 q2
      subst e
      obtain ⟨ks, e1, e2, e3⟩ := rows_rep h2 rr
      subst e1
      subst e2
      refine ⟨(a, is) :: ks, rfl, rfl, fun p hp => ?_⟩
      rcases List.mem_cons.mp hp with z | z
      · rw [z]; exact q1
      · exact e3 p z
  | .non :: _, _, _, h, _ => by cases h
  | .bl _ :: _, _, _, h, _ => by cases h
  | .int _ :: _, _, _, h, _ => by cases h
  | .str _ :: _, _, _, h, _ => by cases h
  | .lst _ :: _, _, _, h, _ => by cases h
  | .dct _ _ _ :: _, _, _, h, _ => by cases h
  | .fn _ :: _, _, _, h, _ => by cases h
  | .loc _ :: _, _, _, h, _ => by cases h
end
def ssE (f : EF) : EF := fun sd => f sd >>= fun d => M.lift (setSortD d)
section
variable {X : Cx} {T : Tb} {W : WX} {a : Expr} {f : EF}
theorem xsortset {p p2 pos2 pos : Pos} (hm : X.mg "sorted" = none) (hm2 : X.mg "set" = none) (hu : X.A.units + 65 < cLine) (ha : PE X a (tMB T W f)) (hc : X.calm = true := by rfl) (hg : Gl X "sorted" := by rfl) (hg2 : Gl X "set" := by rfl)
    (he : starEach [.Call (.Name "set" p2) [a] [] pos2] X.env = (false, eval (.Call (.Name "set" p2) [a] [] pos2) X.env) :: starEach [] X.env := by rfl) (hpl : (backTo pos (starEach [] X.env)).any (·.1) = false := by rfl)
    (he2 : starEach [a] X.env = (false, eval a X.env) :: starEach [] X.env := by rfl) (hpl2 : (backTo pos2 (starEach [] X.env)).any (·.1) = false := by rfl) (k : Lk T X := by exact ⟨rfl, rfl, rfl⟩) :
    PE X (.Call (.Name "sorted" p) [.Call (.Name "set" p2) [a] [] pos2] [] pos) (tM T W (ssE f)) := by
  refine PE.imp (pe_callB (cr_sortedT hc) hg hm (by decide +kernel) (pa_cons (pe_callTy (cr_setOfT hc (by omega)) hg2 hm2 (by decide +kernel) (pa_cons ha pa_nil he2) (by decide) (by decide) he2 hpl2) pa_nil he) (by decide) (by decide) he hpl) fun σ H Q h => ?_
  refine tR_bnd (f := f) (k := fun sd d => M.lift (setSortD d)) h fun sd S1 d x w1 d1 s1 r1 h1 => ?_
  obtain ⟨e, hd, q⟩ := h1.fin d1
  cases d <;> first | cases hd | skip
  rename_i ds
  simp only [setSortD, Option.bind_eq_some_iff] at hd
  obtain ⟨rs, hrs, hd⟩ := hd
  by_cases hok : rowsOkB rs = true
  · rw [if_pos hok, Option.some.injEq] at hd
    subst hd
    obtain ⟨l, vs, rfl, hl, hR⟩ := r1.lst_ d1
    obtain ⟨ks, rfl, e2, e3⟩ := rows_rep hrs hR
    obtain ⟨k1, k2, k3⟩ := rowsOk_to hok
    refine ⟨l, ks, rfl, .inl hl, fun p hp => by rw [k.K]; exact same_seqT d1.sub (e3 p hp), by rw [← e2, List.length_map] at k1; exact k1, fun a0 L ha0 hL hL2 => ?_⟩
    have hmem : ∀ p ∈ L, p.2 ∈ rs := fun p hp => by rw [← e2]; exact List.mem_map_of_mem (hL p hp)
    refine ⟨a0, L, lenHd rs, 64, rfl, upd_same, fun p hp => ?_, k2, fun p hp => k3 _ (hmem p hp), fun L' p hpm hnd hlen hpw hpn => ?_⟩
    · have z : SqT X.K w1.H p.1 (p.2.map V.int) := by rw [k.K]; exact same_seqT d1.sub (e3 p (hL p hp))
      refine same_seqT (fun b u e => ?_) z
      rw [upd_ne (ne_of_none e ha0)]; exact e
    · have hne : p ≠ a0 := fun z => by rw [z, upd_same] at hpn; cases hpn
      have hp0 : w1.H p = none := by rw [upd_ne hne] at hpn; exact hpn
      have gp : w1.G p = none := d1.sub.free hp0
      have ga : w1.G a0 = none := d1.sub.free ha0
      have eu : (L'.map (·.2)) = usort rs := usort_is hok (fun x => by
        constructor
        · intro hx
          obtain ⟨q, hq, rfl⟩ := List.mem_map.mp hx
          exact hmem q (hpm.mem_iff.mp hq)
        · intro hx
          rw [← e2] at hx
          obtain ⟨q, hq, rfl⟩ := List.mem_map.mp hx
          obtain ⟨q', hq', e'⟩ := List.mem_map.mp (hL2 q hq)
          rw [← e']
          exact List.mem_map_of_mem (hpm.mem_iff.mpr hq')) hnd (by rw [List.pairwise_map]; exact hpw)
      have w' : Wo := ⟨w1.lam, upd w1.G p (.lst (L'.map fun q => V.ref q.1)), upd (upd w1.H a0 (SetTO X.prog X.w a0 L)) p (.lst (L'.map fun q => V.ref q.1))⟩
      refine q (.ref p) ⟨w1.lam, upd w1.G p (.lst (L'.map fun q => V.ref q.1)), upd (upd w1.H a0 (SetTO X.prog X.w a0 L)) p (.lst (L'.map fun q => V.ref q.1))⟩ ⟨rfl, fun b u e => ?_, fun b u e => ?_, fun b u e => ?_, fun b h1 h2 => ?_, fun b ps e => ?_⟩ (.lst (.inl upd_same) ?_)
      · show upd (upd w1.H a0 _) p _ b = some u
        rw [upd_ne (ne_of_none e hp0), upd_ne (ne_of_none e ha0)]; exact e
      · show upd w1.G p _ b = some u
        rw [upd_ne (ne_of_none e gp)]; exact e
      · have e' : upd w1.G p (.lst (L'.map fun q => V.ref q.1)) b = some u := e
        show upd (upd w1.H a0 _) p _ b = some u
        by_cases hb : b = p
        · subst hb
          rw [upd_same] at e' ⊢; exact e'
        · rw [upd_ne hb] at e' ⊢
          have hb' := d1.sub b u e'
          rw [upd_ne (ne_of_none hb' ha0)]; exact hb'
      · show upd w1.G p _ b = none
        have hb : b ≠ p := fun z => h1 (by rw [z]; exact hp0)
        rw [upd_ne hb]; exact h2
      · have e' : upd w1.G p (.lst (L'.map fun q => V.ref q.1)) b = some (.tbl ps) := e
        by_cases hb : b = p
        · subst hb
          rw [upd_same] at e'; cases e'
        · rw [upd_ne hb] at e'
          exact d1.notb b ps e'
      · rw [← eu, List.map_map]
        have go : ∀ M : List (Addr × List Int), (∀ m ∈ M, m ∈ ks) → RepA T w1.lam (upd w1.G p (.lst (L'.map fun q => V.ref q.1))) (M.map ((fun r : List Int => D.tup (r.map .int)) ∘ fun x => x.2)) (M.map fun q => V.ref q.1) := by
          intro M
          induction M with
          | nil => intro _; exact .nil
          | cons m M ih =>
            intro hM
            refine .cons (.tup (same_seqT (fun b u e => ?_) (e3 m (hM m (List.mem_cons_self ..)))) (repInts _)) (ih fun x hx => hM x (List.mem_cons_of_mem _ hx))
            rw [upd_ne (ne_of_none e gp)]; exact e
        exact go L' fun m hm' => hL m (hpm.mem_iff.mp hm')
  · rw [if_neg hok] at hd; cases hd
end
end Q
set_option Elab.async false
set_option linter.all false
set_option maxRecDepth 100000
set_option maxHeartbeats 4000000
namespace Q
open PySem PySem.Spec PyProof.Rows
/-- an equation that simp takes for no definition -/
theorem nrf {α : Sort _} {a b : α} (h : a = b) : a = b := by cases h; rfl
section
variable {α β : Type}
def Res.bnd (r : Res α) (k : α → List MO → Res β) : Res β := match r with
  | .ok a S => k a S
  | .exc x S => .exc x S
  | .bad => .bad
@[simp] theorem bnd_ok {a : α} {S : List MO} {k : α → List MO → Res β} : (Res.ok a S).bnd k = k a S := nrf rfl
@[simp] theorem bnd_exc {x : Ex} {S : List MO} {k : α → List MO → Res β} : (Res.exc x S).bnd k = .exc x S := nrf rfl
@[simp] theorem bnd_bad {k : α → List MO → Res β} : (Res.bad : Res α).bnd k = .bad := nrf rfl
@[simp] theorem bind_bnd (m : M α) (k : α → M β) (S : List MO) : (m >>= k) S = (m S).bnd fun a S1 => k a S1 := by rw [bind_ap]; cases m S <;> rfl
def liftR (o : Option α) (S : List MO) : Res α := match o with
  | some a => .ok a S
  | none => .bad
@[simp] theorem liftR_some {a : α} {S : List MO} : liftR (some a) S = .ok a S := nrf rfl
@[simp] theorem liftR_none {S : List MO} : (liftR none S : Res α) = .bad := nrf rfl
@[simp] theorem lift_ap {o : Option α} {S : List MO} : M.lift o S = liftR o S := by cases o <;> rfl
end
@[simp] theorem litE_ap {d : D} {sd S} : litE d sd S = .ok d S := nrf rfl
@[simp] theorem opE_ap {h f g sd S} : opE h f g sd S = (f sd S).bnd fun x S1 => (g sd S1).bnd fun y S2 => liftR (h x y) S2 := by simp only [opE, bind_bnd, lift_ap]
@[simp] theorem nilA_ap {sd S} : nilA sd S = .ok [] S := nrf rfl
@[simp] theorem consA_ap {f g sd S} : consA f g sd S = (f sd S).bnd fun d S1 => (g sd S1).bnd fun ds S2 => .ok (d :: ds) S2 := by simp only [consA, bind_bnd, pure_ap]
@[simp] theorem callE_ap {g h sd S} : callE g h sd S = (h sd S).bnd fun ds S1 => g ds S1 := by simp only [callE, bind_bnd]
@[simp] theorem biE_ap {r h sd S} : biE r h sd S = (h sd S).bnd fun ds S1 => liftR (r ds) S1 := by simp only [biE, bind_bnd, lift_ap]
@[simp] theorem isiE_ap {t f sd S} : isiE t f sd S = (f sd S).bnd fun d S1 => liftR (isiD t d) S1 := by simp only [isiE, bind_bnd, lift_ap]
def slotR : Option SV → List MO → Res D
  | some (.val d), S => .ok d S
  | _, _ => .bad
def slotB : Option SV → List MO → Res D
  | some (.val d), S => .ok d S
  | some (.own ds), S => .ok (.lst ds) S
  | some (.dic b ks vs), S => .ok (.dct b ks vs) S
  | _, _ => .bad
@[simp] theorem slotR_val {d : D} {S} : slotR (some (.val d)) S = .ok d S := nrf rfl
@[simp] theorem slotB_val {d : D} {S} : slotB (some (.val d)) S = .ok d S := nrf rfl
@[simp] theorem slotB_own {ds : List D} {S} : slotB (some (.own ds)) S = .ok (.lst ds) S := nrf rfl
@[simp] theorem slotB_dic {b : Bool} {ks vs : List D} {S} : slotB (some (.dic b ks vs)) S = .ok (.dct b ks vs) S := nrf rfl
@[simp] theorem getv_ap {i sd S} : getv i sd S = slotR sd[i]? S := by
  unfold getv
  cases sd[i]? with
  | none => rfl
  | some v => cases v <;> rfl
@[simp] theorem getb_ap {i sd S} : getb i sd S = slotB sd[i]? S := by
  unfold getb
  cases sd[i]? with
  | none => rfl
  | some v => cases v <;> rfl
@[simp] theorem asB_bl {b : Bool} {S} : asB (.bl b) S = .ok b S := nrf rfl
@[simp] theorem asI_int {i : Int} {S} : asI (.int i) S = .ok i S := nrf rfl
@[simp] theorem notM_bl {b : Bool} {S} : notM (.bl b) S = .ok (.bl (!b)) S := nrf rfl
@[simp] theorem negM_int {i : Int} {S} : negM (.int i) S = .ok (.int (-i)) S := nrf rfl
@[simp] theorem andE_ap {f g sd S} : andE f g sd S = (f sd S).bnd fun d S1 => (asB d S1).bnd fun c S2 => if c then g sd S2 else .ok (.bl false) S2 := by
  simp only [andE, bind_bnd]
  congr 1; funext d S1; congr 1; funext c S2; cases c <;> rfl
@[simp] theorem orE_ap {f g sd S} : orE f g sd S = (f sd S).bnd fun d S1 => (asB d S1).bnd fun c S2 => if c then .ok (.bl true) S2 else g sd S2 := by
  simp only [orE, bind_bnd]
  congr 1; funext d S1; congr 1; funext c S2; cases c <;> rfl
@[simp] theorem notE_ap {f sd S} : notE f sd S = (f sd S).bnd fun d S1 => notM d S1 := by simp only [notE, bind_bnd]
@[simp] theorem negE_ap {f sd S} : negE f sd S = (f sd S).bnd fun d S1 => negM d S1 := by simp only [negE, bind_bnd]
@[simp] theorem iteE_ap {h f g sd S} : iteE h f g sd S = (h sd S).bnd fun c S1 => if c then f sd S1 else g sd S1 := by
  simp only [iteE, bind_bnd]
  congr 1; funext c S1; cases c <;> rfl
@[simp] theorem valT_ap {f sd S} : valT f sd S = (f sd S).bnd fun d S1 => asB d S1 := by simp only [valT, bind_bnd]
@[simp] theorem andT_ap {f g sd S} : andT f g sd S = (f sd S).bnd fun c S1 => if c then g sd S1 else .ok false S1 := by
  simp only [andT, bind_bnd]
  congr 1; funext c S1; cases c <;> rfl
@[simp] theorem orT_ap {f g sd S} : orT f g sd S = (f sd S).bnd fun c S1 => if c then .ok true S1 else g sd S1 := by
  simp only [orT, bind_bnd]
  congr 1; funext c S1; cases c <;> rfl
@[simp] theorem notT_ap {f sd S} : notT f sd S = (f sd S).bnd fun c S1 => .ok (!c) S1 := by simp only [notT, bind_bnd]; rfl
@[simp] theorem yesT_ap {sd S} : yesT sd S = .ok true S := nrf rfl
@[simp] theorem chainE_ap {r r' f g h sd S} : chainE r r' f g h sd S = (f sd S).bnd fun x S1 => (g sd S1).bnd fun y S2 => chainD r r' x y (h sd) S2 := by simp only [chainE, bind_bnd]
@[simp] theorem frsE_ap {f sd S} : frsE f sd S = (f sd S).bnd fun ds S1 => .ok (.lst ds) S1 := by simp only [frsE, bind_bnd]; rfl
@[simp] theorem seqI_ap {f sd S} : seqI f sd S = (f sd S).bnd fun d S1 => liftR (itemsD d) S1 := by simp only [seqI, bind_bnd, lift_ap]
@[simp] theorem rngI_ap {h sd S} : rngI h sd S = (h sd S).bnd fun ds S1 => liftR (rangeD ds) S1 := by simp only [rngI, bind_bnd, lift_ap]
@[simp] theorem enumI_ap {h sd S} : enumI h sd S = (h sd S).bnd fun ds S1 => enumM ds S1 := by simp only [enumI, bind_bnd]
@[simp] theorem zipI_ap {h sd S} : zipI h sd S = (h sd S).bnd fun ds S1 => zipM ds S1 := by simp only [zipI, bind_bnd]
def So.bnd (r : So) (k : List SV → List MO → So) : So := match r with
  | .nx sd S => k sd S
  | .rt d S => .rt d S
  | .ex x sd S => .ex x sd S
  | .bad => .bad
@[simp] theorem sbnd_nx {sd S k} : (So.nx sd S).bnd k = k sd S := nrf rfl
@[simp] theorem sbnd_rt {d S k} : (So.rt d S).bnd k = .rt d S := nrf rfl
@[simp] theorem sbnd_ex {x sd S k} : (So.ex x sd S).bnd k = .ex x sd S := nrf rfl
@[simp] theorem sbnd_bad {k} : So.bad.bnd k = .bad := nrf rfl
@[simp] theorem seqF_ap {f g : SF} {sd S} : seqF f g sd S = (f sd S).bnd g := by unfold seqF; cases f sd S <;> rfl
def Res.stm {α : Type} (r : Res α) (k : α → SF) (sd : List SV) : So := match r with
  | .ok a S => k a sd S
  | .exc x S => .ex x sd S
  | .bad => .bad
@[simp] theorem stm_ok {α : Type} {a : α} {S} {k : α → SF} {sd} : (Res.ok a S).stm k sd = k a sd S := nrf rfl
@[simp] theorem stm_exc {α : Type} {x : Ex} {S} {k : α → SF} {sd} : (Res.exc x S : Res α).stm k sd = .ex x sd S := nrf rfl
@[simp] theorem stm_bad {α : Type} {k : α → SF} {sd} : (Res.bad : Res α).stm k sd = .bad := nrf rfl
@[simp] theorem ofM_ap {α : Type} {m : List SV → M α} {k : α → SF} {sd S} : ofM m k sd S = (m sd S).stm k sd := by unfold ofM; cases m sd S <;> rfl
@[simp] theorem nxF_ap {sd S} : nxF sd S = .nx sd S := nrf rfl
@[simp] theorem retF_ap {d sd S} : retF d sd S = .rt d S := nrf rfl
@[simp] theorem setF_ap {i d sd S} : setF i d sd S = .nx (sd.set i (.val d)) S := nrf rfl
@[simp] theorem ownF_ap {i ds sd S} : ownF i ds sd S = .nx (sd.set i (.own ds)) S := nrf rfl
@[simp] theorem ifF_ap {f g b sd S} : ifF f g b sd S = if b then f sd S else g sd S := by unfold ifF; cases b <;> rfl
def So.out (r : So) : Res D := match r with
  | .nx _ S' => .ok .non S'
  | .rt d S' => .ok d S'
  | .ex x _ S' => .exc x S'
  | .bad => .bad
@[simp] theorem out_nx {sd S} : (So.nx sd S).out = .ok .non S := nrf rfl
@[simp] theorem out_rt {d S} : (So.rt d S).out = .ok d S := nrf rfl
@[simp] theorem out_ex {x sd S} : (So.ex x sd S).out = .exc x S := nrf rfl
@[simp] theorem out_bad : So.bad.out = .bad := nrf rfl
@[simp] theorem runF_ap {n F ds S} : runF n F ds S = (F (sd0 n ds) S).out := by unfold runF; cases F (sd0 n ds) S <;> rfl
@[simp] theorem liftS_ap {α : Type} {o : List MO → Option α} {S : List MO} : M.liftS o S = liftR (o S) S := by unfold M.liftS; exact lift_ap
@[simp] theorem ixE_ap {f g sd S} : ixE f g sd S = (f sd S).bnd fun x S1 => (g sd S1).bnd fun y S2 => liftR (ixD S2 x y) S2 := by simp only [ixE, bind_bnd, liftS_ap]
@[simp] theorem slE_ap {f l h sd S} : slE f l h sd S = (f sd S).bnd fun x S1 => (l sd S1).bnd fun i S2 => (h sd S2).bnd fun j S3 => liftR (slD x i j) S3 := by simp only [slE, bind_bnd, lift_ap]
@[simp] theorem partO_none {sd S} : partO none sd S = .ok none S := nrf rfl
@[simp] theorem partO_some {f sd S} : partO (some f) sd S = (f sd S).bnd fun d S1 => (asI d S1).bnd fun i S2 => .ok (some i) S2 := by
  show (f sd >>= fun d => asI d >>= fun i => pure (some i)) S = _
  simp only [bind_bnd]; rfl
@[simp] theorem tupE_ap {g sd S} : tupE g sd S = (g sd S).bnd fun ds S1 => liftR (if ds.length ≤ sizeLine then some (.tup ds) else none) S1 := by
  simp only [tupE, bind_bnd, mkTup, lift_ap]
@[simp] theorem lstE_ap {g sd S} : lstE g sd S = (g sd S).bnd fun ds S1 => liftR (if ds.length ≤ sizeLine then some (.lst ds) else none) S1 := by
  simp only [lstE, bind_bnd, mkLst, lift_ap]
@[simp] theorem flsF_ap {g sd S} : flsF g sd S = (g sd S).bnd fun ds S1 => liftR (if ds.length ≤ sizeLine then some ds else none) S1 := by
  simp only [flsF, bind_bnd, lift_ap]
theorem chainD_ap {r r' x y m S} : chainD r r' x y m S = (liftR (r x y) S).bnd fun z S1 => (asB z S1).bnd fun k S2 => if k then (m S2).bnd (fun w S3 => liftR (r' y w) S3) else .ok (.bl false) S2 := by
  unfold chainD
  simp only [bind_bnd, lift_ap]
  congr 1; funext z S1; congr 1; funext k S2
  cases k
  · rfl
  · simp only [if_true, bind_bnd, lift_ap]
theorem sizeLine_ge : 16777216 ≤ sizeLine := by decide
@[simp] theorem kit_NoneType_bool : L2.kitB "NoneType" "bool" = some false := by decide +kernel
@[simp] theorem kit_NoneType_int : L2.kitB "NoneType" "int" = some false := by decide +kernel
@[simp] theorem kit_NoneType_str : L2.kitB "NoneType" "str" = some false := by decide +kernel
@[simp] theorem kit_NoneType_list : L2.kitB "NoneType" "list" = some false := by decide +kernel
@[simp] theorem kit_NoneType_tuple : L2.kitB "NoneType" "tuple" = some false := by decide +kernel
@[simp] theorem kit_bool_bool : L2.kitB "bool" "bool" = some true := by decide +kernel
@[simp] theorem kit_bool_int : L2.kitB "bool" "int" = some true := by decide +kernel
@[simp] theorem kit_bool_str : L2.kitB "bool" "str" = some false := by decide +kernel
@[simp] theorem kit_bool_list : L2.kitB "bool" "list" = some false := by decide +kernel
@[simp] theorem kit_bool_tuple : L2.kitB "bool" "tuple" = some false := by decide +kernel
@[simp] theorem kit_int_bool : L2.kitB "int" "bool" = some false := by decide +kernel
@[simp] theorem kit_int_int : L2.kitB "int" "int" = some true := by decide +kernel
@[simp] theorem kit_int_str : L2.kitB "int" "str" = some false := by decide +kernel
@[simp] theorem kit_int_list : L2.kitB "int" "list" = some false := by decide +kernel
@[simp] theorem kit_int_tuple : L2.kitB "int" "tuple" = some false := by decide +kernel
@[simp] theorem kit_str_bool : L2.kitB "str" "bool" = some false := by decide +kernel
@[simp] theorem kit_str_int : L2.kitB "str" "int" = some false := by decide +kernel
@[simp] theorem kit_str_str : L2.kitB "str" "str" = some true := by decide +kernel
@[simp] theorem kit_str_list : L2.kitB "str" "list" = some false := by decide +kernel
@[simp] theorem kit_str_tuple : L2.kitB "str" "tuple" = some false := by decide +kernel
@[simp] theorem kit_list_bool : L2.kitB "list" "bool" = some false := by decide +kernel
@[simp] theorem kit_list_int : L2.kitB "list" "int" = some false := by decide +kernel
@[simp] theorem kit_list_str : L2.kitB "list" "str" = some false := by decide +kernel
@[simp] theorem kit_list_list : L2.kitB "list" "list" = some true := by decide +kernel
@[simp] theorem kit_list_tuple : L2.kitB "list" "tuple" = some false := by decide +kernel
@[simp] theorem kit_tuple_bool : L2.kitB "tuple" "bool" = some false := by decide +kernel
@[simp] theorem kit_tuple_int : L2.kitB "tuple" "int" = some false := by decide +kernel
@[simp] theorem kit_tuple_str : L2.kitB "tuple" "str" = some false := by decide +kernel
@[simp] theorem kit_tuple_list : L2.kitB "tuple" "list" = some false := by decide +kernel
@[simp] theorem kit_tuple_tuple : L2.kitB "tuple" "tuple" = some true := by decide +kernel
def nxR {α : Type} (r : Res α) : Res α := match r with
  | .ok a S => .ok a S
  | _ => .bad
@[simp] theorem nxR_ok {α : Type} {a : α} {S} : nxR (.ok a S : Res α) = .ok a S := nrf rfl
@[simp] theorem noexc_ap {α : Type} {m : M α} {S} : noexc m S = nxR (m S) := by
  unfold noexc nxR
  cases m S <;> rfl
theorem compM_pure {f : D → M (Option D)} {o : D → Option D} {S : List MO} : ∀ {ds : List D}, (∀ d ∈ ds, f d S = .ok (o d) S) → compM f ds S = .ok (ds.filterMap o) S
  | [], _ => rfl
  | d :: ds, h => by
    have h1 := h d (List.mem_cons_self ..)
    have h2 := compM_pure (ds := ds) fun x hx => h x (List.mem_cons_of_mem _ hx)
    simp only [compM, bind_bnd, h1, bnd_ok, h2, pure_ap]
    cases e : o d <;> simp [List.filterMap_cons, e]
theorem comp_pure {it : AF} {t : Tg} {vs : List Nat} {c : TF} {e : EF} {sd : List SV} {S : List MO} {ds : List D} (h : it sd S = .ok ds S) (hs : ds.length < sizeLine) (o : D → Option D) (ht : ∀ d ∈ ds, turnM t vs sd c e d S = .ok (o d) S) : compF it t vs c e sd S = .ok (ds.filterMap o) S := by
  unfold compF
  simp only [bind_bnd, h, bnd_ok, short, lift_ap, if_pos hs, liftR_some]
  exact compM_pure ht
/-- .. over things that stand for the items -/
theorem comp_map {α β : Type} {it : AF} {t : Tg} {vs : List Nat} {c : TF} {e : EF} {sd : List SV} {S : List MO} (xs : List α) (en : α → D) (en2 : β → D) (o : α → Option β) (h : it sd S = .ok (xs.map en) S) (hs : xs.length < sizeLine) (ht : ∀ x ∈ xs, turnM t vs sd c e (en x) S = .ok ((o x).map en2) S) : compF it t vs c e sd S = .ok ((xs.filterMap o).map en2) S := by
  unfold compF
  simp only [bind_bnd, h, bnd_ok, short, lift_ap, List.length_map, if_pos hs, liftR_some]
  have go : ∀ ys : List α, (∀ x ∈ ys, turnM t vs sd c e (en x) S = .ok ((o x).map en2) S) → compM (turnM t vs sd c e) (ys.map en) S = .ok ((ys.filterMap o).map en2) S := by
    intro ys
    induction ys with
    | nil => intro _; rfl
    | cons y ys ih =>
      intro hy
      have h1 := hy y (List.mem_cons_self ..)
      have h2 := ih fun x hx => hy x (List.mem_cons_of_mem _ hx)
      simp only [List.map_cons, compM, bind_bnd, h1, bnd_ok, h2, pure_ap]
      cases e : o y <;> simp [List.filterMap_cons, e]
  exact go xs ht
theorem turn_ap {t : Tg} {vs : List Nat} {sd sd' : List SV} {c : TF} {e : EF} {d : D} {S : List MO} (h : asgT t d (wipeS sd vs) = some sd') : turnM t vs sd c e d S = (nxR (c sd' S)).bnd fun b S1 => if b then (nxR (e sd' S1)).bnd fun x S2 => .ok (some x) S2 else .ok none S1 := by
  unfold turnM
  rw [h]
  show (noexc (c sd') >>= fun b => if b then noexc (e sd') >>= fun x => pure (some x) else pure none) S = _
  simp only [bind_bnd, noexc_ap]
  congr 1; funext b S1
  cases b
  · rfl
  · simp only [if_true, bind_bnd, noexc_ap]; rfl
end Q
set_option Elab.async false
set_option linter.all false
set_option maxRecDepth 100000
set_option maxHeartbeats 4000000
namespace Q
open PySem PySem.Spec PyProof.Rows
def eP (p : Int × Int) : D := .tup [.int p.1, .int p.2]
def eR (r : List Int) : D := .tup (r.map .int)
theorem ok_int (i : Int) (n : Nat) : okD (.int i) n = true := by simp [okD]
theorem ok_ints : ∀ (r : List Int) (n : Nat), okA (r.map .int) n = true
  | [], _ => by simp [okA]
  | i :: r, n => by
    simp only [List.map_cons, okA, ok_int, ok_ints r n, Bool.and_self]
theorem ok_eP (p : Int × Int) (n : Nat) : okD (eP p) (n + 1) = true := by
  simp [eP, okD, okA]
theorem ok_eR (r : List Int) (n : Nat) : okD (eR r) (n + 1) = true := by
  simp [eR, okD, ok_ints]
theorem okA_map {α : Type} {f : α → D} {n : Nat} (h : ∀ x, okD (f x) n = true) : ∀ l : List α, okA (l.map f) n = true
  | [] => by simp [okA]
  | x :: l => by
    simp only [List.map_cons, okA, h x, okA_map h l, Bool.and_self]
theorem ok_tups {α : Type} {f : α → D} (h : ∀ x n, okD (f x) (n + 1) = true) (l : List α) (n : Nat) : okD (.tup (l.map f)) (n + 2) = true := by
  simp [okD, okA_map (fun x => h x n) l]
theorem eq_int (i j : Int) : eqD (.int i) (.int j) = decide (i = j) := by
  by_cases h : i = j <;> simp [eqD, D.py, PyData.eqv, h]
theorem eq_eP (p q : Int × Int) : eqD (eP p) (eP q) = decide (p = q) := by
  obtain ⟨a, b⟩ := p
  obtain ⟨c, d⟩ := q
  by_cases h : a = c <;> by_cases h' : b = d <;> simp [eqD, eP, D.py, pyA, PyData.eqv, PyData.eqvAll, h, h']
theorem any_eP (l : List (Int × Int)) (p : Int × Int) : ((l.map eP).any fun z => eqD z (eP p)) = decide (p ∈ l) := by
  induction l with
  | nil => rfl
  | cons q l ih =>
    simp only [List.map_cons, List.any_cons, ih, eq_eP, List.mem_cons]
    by_cases h : q = p
    · simp [h]
    · have h' : ¬ p = q := fun z => h z.symm
      simp [h, h']
theorem any_int (l : List Int) (i : Int) : ((l.map D.int).any fun z => eqD z (.int i)) = decide (i ∈ l) := by
  induction l with
  | nil => rfl
  | cons q l ih =>
    simp only [List.map_cons, List.any_cons, ih, eq_int, List.mem_cons]
    by_cases h : q = i
    · simp [h]
    · have h' : ¬ i = q := fun z => h z.symm
      simp [h, h']
theorem in_doors (l : List (Int × Int)) (p : Int × Int) : cmpD .In (eP p) (.tup (l.map eP)) = some (.bl (decide (p ∈ l))) := by
  have h1 : ok60 (eP p) = true := ok_eP p 59
  have h2 : ok60 (.tup (l.map eP)) = true := ok_tups ok_eP l 58
  have e : cmpD .In (eP p) (.tup (l.map eP)) = if ok60 (eP p) && ok60 (.tup (l.map eP)) then some (.bl ((l.map eP).any fun z => eqD z (eP p))) else none := rfl
  rw [e, h1, h2, any_eP]
  rfl
theorem in_ints (l : List Int) (i : Int) : cmpD .In (.int i) (.tup (l.map .int)) = some (.bl (decide (i ∈ l))) := by
  have h1 : ok60 (.int i) = true := ok_int i 60
  have h2 : ok60 (.tup (l.map .int)) = true := ok_eR l 59
  have e : cmpD .In (.int i) (.tup (l.map .int)) = if ok60 (.int i) && ok60 (.tup (l.map .int)) then some (.bl ((l.map D.int).any fun z => eqD z (.int i))) else none := rfl
  rw [e, h1, h2, any_int]
  rfl
theorem cmp_eq_int (i j : Int) : cmpD .Eq (.int i) (.int j) = some (.bl (decide (i = j))) := by
  have h1 : ∀ i, ok60 (.int i) = true := fun i => ok_int i 60
  have e : cmpD .Eq (.int i) (.int j) = if ok60 (.int i) && ok60 (.int j) then some (.bl (eqD (.int i) (.int j))) else none := rfl
  rw [e, h1, h1, eq_int]
  rfl
theorem cmp_ne_int (i j : Int) : cmpD .NotEq (.int i) (.int j) = some (.bl (!decide (i = j))) := by
  have h1 : ∀ i, ok60 (.int i) = true := fun i => ok_int i 60
  have e : cmpD .NotEq (.int i) (.int j) = if ok60 (.int i) && ok60 (.int j) then some (.bl (!eqD (.int i) (.int j))) else none := rfl
  rw [e, h1, h1, eq_int]
  rfl
end Q
set_option Elab.async false
set_option linter.all false
set_option maxRecDepth 100000
set_option maxHeartbeats 4000000
namespace Q
open PySem PySem.Spec PyProof.Rows
@[simp] theorem asgT_nm {i : Nat} {d : D} {sd : List SV} : asgT (.nm i) d sd = some (sd.set i (.val d)) := nrf rfl
@[simp] theorem asgT_tp {ts : List Tg} {ds : List D} {sd : List SV} : asgT (.tp ts) (.tup ds) sd = if ds.length = ts.length then asgA ts ds sd else none := nrf rfl
@[simp] theorem asgA_nil {ds : List D} {sd : List SV} : asgA [] ds sd = some sd := nrf rfl
@[simp] theorem asgA_cons {t : Tg} {ts : List Tg} {d : D} {ds : List D} {sd : List SV} : asgA (t :: ts) (d :: ds) sd = (asgT t d sd).bind (asgA ts ds) := by
  show (match asgT t d sd with
      | some sd' => asgA ts ds sd'
      | none => none) = _
  cases asgT t d sd <;> rfl
@[simp] theorem wipeS_nil {sd : List SV} : wipeS sd [] = sd := nrf rfl
@[simp] theorem wipeS_cons {sd : List SV} {v : Nat} {vs : List Nat} : wipeS sd (v :: vs) = (wipeS sd vs).set v .un := nrf rfl
def asgR (o : Option (List SV)) (S : List MO) : So := match o with
  | some sd' => .nx sd' S
  | none => .bad
@[simp] theorem asgR_some {sd S} : asgR (some sd) S = .nx sd S := nrf rfl
@[simp] theorem asgF_ap {t d sd S} : asgF t d sd S = asgR (asgT t d sd) S := by
  unfold asgF
  cases asgT t d sd <;> rfl
@[simp] theorem parF_ap {i j : Nat} {a b : D} {sd S} : parF i j [a, b] sd S = .nx ((sd.set i (.val a)).set j (.val b)) S := nrf rfl
@[simp] theorem frzF_ap {i : Nat} {f : SF} {sd S} : frzF i f sd S = match sd[i]? with
  | some (.own ds) => f (sd.set i (.val (.lst ds))) S
  | some (.dic b ks vs) => f (sd.set i (.val (.dct b ks vs))) S
  | _ => f sd S := rfl
def turnR (o : Option (List SV)) (c : TF) (e : EF) (S : List MO) : Res (Option D) := match o with
  | none => .bad
  | some sd' => (nxR (c sd' S)).bnd fun b S1 => if b then (nxR (e sd' S1)).bnd fun x S2 => .ok (some x) S2 else .ok none S1
@[simp] theorem turnR_some {sd' c e S} : turnR (some sd') c e S = (nxR (c sd' S)).bnd fun b S1 => if b then (nxR (e sd' S1)).bnd fun x S2 => .ok (some x) S2 else .ok none S1 := nrf rfl
theorem turnM_ap {t vs sd c e d S} : turnM t vs sd c e d S = turnR (asgT t d (wipeS sd vs)) c e S := by
  unfold turnM turnR
  cases asgT t d (wipeS sd vs) with
  | none => rfl
  | some sd' =>
    show (noexc (c sd') >>= fun b => if b then noexc (e sd') >>= fun x => pure (some x) else pure none) S = _
    simp only [bind_bnd, noexc_ap]
    congr 1; funext b S1
    cases b
    · rfl
    · simp only [if_true, bind_bnd, noexc_ap]; rfl
theorem compF_ap {it t vs c e sd S} {ds : List D} (h : it sd S = .ok ds S) (hs : ds.length < sizeLine) : compF it t vs c e sd S = compM (turnM t vs sd c e) ds S := by
  unfold compF
  simp only [bind_bnd, h, bnd_ok, short, lift_ap, if_pos hs, liftR_some]
theorem compM_fil {α : Type} {f : D → M (Option D)} {en : α → D} {S : List MO} (p : α → Bool) (o : α → D) : ∀ (xs : List α), (∀ x ∈ xs, f (en x) S = .ok (if p x then some (o x) else none) S) → compM f (xs.map en) S = .ok ((xs.filter p).map o) S
  | [], _ => rfl
  | x :: xs, h => by
    have h1 := h x (List.mem_cons_self ..)
    have h2 := compM_fil p o xs fun y hy => h y (List.mem_cons_of_mem _ hy)
    simp only [List.map_cons, compM, bind_bnd, h1, bnd_ok, h2, pure_ap]
    cases e : p x <;> simp [List.filter_cons, e]
/-- [o(x) for x in xs] -/
theorem compF_map {α : Type} {it t vs c e sd} {S : List MO} (xs : List α) (en : α → D) (o : α → D) (h : it sd S = .ok (xs.map en) S) (hs : xs.length < sizeLine) (ht : ∀ x ∈ xs, turnM t vs sd c e (en x) S = .ok (some (o x)) S) : compF it t vs c e sd S = .ok (xs.map o) S := by
  rw [compF_ap h (by simpa using hs)]
  have q := compM_fil (f := turnM t vs sd c e) (en := en) (S := S) (fun _ => true) o xs (fun x hx => by simpa using ht x hx)
  have e : List.filter (fun _ : α => true) xs = xs := List.filter_eq_self.mpr fun _ _ => rfl
  rw [q, e]
/-- [o(x) for x in xs if p(x)] -/
theorem compF_fil {α : Type} {it t vs c e sd} {S : List MO} (xs : List α) (en : α → D) (p : α → Bool) (o : α → D) (h : it sd S = .ok (xs.map en) S) (hs : xs.length < sizeLine) (ht : ∀ x ∈ xs, turnM t vs sd c e (en x) S = .ok (if p x then some (o x) else none) S) : compF it t vs c e sd S = .ok ((xs.filter p).map o) S := by
  rw [compF_ap h (by simpa using hs)]
  exact compM_fil p o xs ht
/-- .. of things that stand for others -/
theorem compF_map2 {α β : Type} {it t vs c e sd} {S : List MO} (xs : List α) (en : α → D) (o : α → β) (en2 : β → D) (h : it sd S = .ok (xs.map en) S) (hs : xs.length < sizeLine) (ht : ∀ x ∈ xs, turnM t vs sd c e (en x) S = .ok (some (en2 (o x))) S) : compF it t vs c e sd S = .ok ((xs.map o).map en2) S := by
  rw [compF_map xs en (fun x => en2 (o x)) h hs ht, List.map_map]; rfl
theorem compF_fil2 {α β : Type} {it t vs c e sd} {S : List MO} (xs : List α) (en : α → D) (p : α → Bool) (o : α → β) (en2 : β → D) (h : it sd S = .ok (xs.map en) S) (hs : xs.length < sizeLine) (ht : ∀ x ∈ xs, turnM t vs sd c e (en x) S = .ok (if p x then some (en2 (o x)) else none) S) : compF it t vs c e sd S = .ok (((xs.filter p).map o).map en2) S := by
  rw [compF_fil xs en p (fun x => en2 (o x)) h hs ht, List.map_map]; rfl
/-- a comprehension in a state that changes, its end told by what holds of it -/
theorem compM_inv {f : D → M (Option D)} (I : List D → List D → List MO → Prop) : ∀ (ds : List D) (acc : List D) (S : List MO), I acc ds S →
    (∀ acc d ds S, I acc (d :: ds) S → ∃ o S1, f d S = .ok o S1 ∧ I (acc ++ o.toList) ds S1) → ∃ r S1, compM f ds S = .ok r S1 ∧ I (acc ++ r) [] S1
  | [], acc, S, h, _ => ⟨[], S, rfl, by simpa using h⟩
  | d :: ds, acc, S, h, hf => by
    obtain ⟨o, S1, e1, h1⟩ := hf acc d ds S h
    obtain ⟨r, S2, e2, h2⟩ := compM_inv I ds _ S1 h1 hf
    refine ⟨o.toList ++ r, S2, ?_, by simpa using h2⟩
    simp only [compM, bind_bnd, e1, bnd_ok, e2, pure_ap]
    cases o <;> rfl
theorem few_ap {ds : List D} {S} (h : ds.length ≤ 4000) : few ds S = .ok ds S := by
  unfold few
  simp [h]
theorem comp2M_map {α : Type} {f : D → M (List D)} {en : α → D} {S : List MO} (o : α → List D) : ∀ (xs : List α), (∀ x ∈ xs, f (en x) S = .ok (o x) S) → comp2M f (xs.map en) S = .ok (xs.flatMap o) S
  | [], _ => rfl
  | x :: xs, h => by
    have h1 := h x (List.mem_cons_self ..)
    have h2 := comp2M_map o xs fun y hy => h y (List.mem_cons_of_mem _ hy)
    simp only [List.map_cons, comp2M, bind_bnd, h1, bnd_ok, h2, pure_ap, List.flatMap_cons]
/-- [.. for x in xs for y in ys(x)] -/
theorem compF2_map {α : Type} {it t0 vs c0 it1 t1 vs1 c1 e sd} {S : List MO} (xs : List α) (en : α → D) (o : α → List D) (h : it sd S = .ok (xs.map en) S) (hs : xs.length ≤ 4000) (ht : ∀ x ∈ xs, turn2M t0 vs sd c0 it1 t1 vs1 c1 e (en x) S = .ok (o x) S) :
    compF2 it t0 vs c0 it1 t1 vs1 c1 e sd S = .ok (xs.flatMap o) S := by
  unfold compF2
  simp only [bind_bnd, h, bnd_ok]
  rw [few_ap (by simpa using hs)]
  exact comp2M_map o xs ht
theorem turn2M_ap {t0 vs sd c0 it1 t1 vs1 c1 e d S} : turn2M t0 vs sd c0 it1 t1 vs1 c1 e d S = match asgT t0 d (wipeS sd vs) with
  | none => .bad
  | some sd' => (nxR (c0 sd' S)).bnd fun b S1 => if b then (nxR (it1 sd' S1)).bnd fun es S2 => (few es S2).bnd fun es S3 => compM (turnM t1 vs1 sd' c1 e) es S3 else .ok [] S1 := by
  unfold turn2M
  cases asgT t0 d (wipeS sd vs) with
  | none => rfl
  | some sd' =>
    show (noexc (c0 sd') >>= fun b => if b then noexc (it1 sd') >>= fun es => few es >>= fun es => compM (turnM t1 vs1 sd' c1 e) es else pure []) S = _
    simp only [bind_bnd, noexc_ap]
    congr 1; funext b S1
    cases b
    · rfl
    · simp only [if_true, bind_bnd, noexc_ap]
inductive So.sat : So → (List SV → List MO → Prop) → (D → List MO → Prop) → Prop
  | nx {sd S N R} (h : N sd S) : So.sat (.nx sd S) N R
  | rt {d S N R} (h : R d S) : So.sat (.rt d S) N R
@[simp] theorem sat_nx {sd S N R} : (So.nx sd S).sat N R ↔ N sd S := ⟨fun h => by cases h; assumption, fun h => .nx h⟩
@[simp] theorem sat_rt {d S N R} : (So.rt d S).sat N R ↔ R d S := ⟨fun h => by cases h; assumption, fun h => .rt h⟩
theorem sat_ex {x sd S N R} (h : (So.ex x sd S).sat N R) : False := by cases h
theorem sat_bad {N R} (h : So.bad.sat N R) : False := by cases h
theorem So.sat.imp {r : So} {N N' : List SV → List MO → Prop} {R R' : D → List MO → Prop} (h : r.sat N R) (hn : ∀ sd S, N sd S → N' sd S) (hr : ∀ d S, R d S → R' d S) : r.sat N' R' := by
  cases h with
  | nx h => exact .nx (hn _ _ h)
  | rt h => exact .rt (hr _ _ h)
theorem sat_of {r : So} {N : List SV → List MO → Prop} {R : D → List MO → Prop} (sd : List SV) (S : List MO) (h : r = .nx sd S) (hN : N sd S) : r.sat N R := by rw [h]; exact .nx hN
theorem out_bnd {P : Res D → Prop} {r : So} {k : SF} (sd' : List SV) (S' : List MO) (h : r = .nx sd' S') (hk : P (k sd' S').out) : P (r.bnd k).out := by rw [h]; exact hk
theorem sat_bnd {r : So} {k : List SV → List MO → So} {N N' : List SV → List MO → Prop} {R : D → List MO → Prop} (h : r.sat N R) (hk : ∀ sd S, N sd S → (k sd S).sat N' R) : (r.bnd k).sat N' R := by
  cases h with
  | nx h => exact hk _ _ h
  | rt h => exact .rt h
theorem for_cons {t : Tg} {body : SF} {d : D} {ds : List D} {sd sd1 : List SV} {S : List MO} (ha : asgT t d sd = some sd1) : forF t body (d :: ds) sd S = (body sd1 S).bnd (forF t body ds) := by
  show (match asgT t d sd with
    | none => So.bad
    | some sd1 => match body sd1 S with
      | .nx sd2 S2 => forF t body ds sd2 S2
      | .rt d S2 => .rt d S2
      | .ex x sd2 S2 => .ex x sd2 S2
      | .bad => .bad) = _
  rw [ha]
  show (match body sd1 S with
      | .nx sd2 S2 => forF t body ds sd2 S2
      | .rt d S2 => .rt d S2
      | .ex x sd2 S2 => .ex x sd2 S2
      | .bad => .bad) = _
  cases body sd1 S <;> rfl
/-- a loop by its invariant -/
theorem for_inv {α : Type} {t : Tg} {body : SF} {en : α → D} (I : List α → List SV → List MO → Prop) (R : D → List MO → Prop)
    (hb : ∀ x xs sd S, I (x :: xs) sd S → ∃ sd1, asgT t (en x) sd = some sd1 ∧ (body sd1 S).sat (I xs) R) : ∀ (xs : List α) (sd : List SV) (S : List MO), I xs sd S → (forF t body (xs.map en) sd S).sat (I []) R
  | [], sd, S, h => .nx h
  | x :: xs, sd, S, h => by
    obtain ⟨sd1, ha, hs⟩ := hb x xs sd S h
    rw [List.map_cons, for_cons ha]
    exact sat_bnd hs fun sd2 S2 h2 => for_inv I R hb xs sd2 S2 h2
theorem while_inv {c : List SV → M Bool} {body : SF} (I : Nat → List SV → List MO → Prop) (N : List SV → List MO → Prop) (R : D → List MO → Prop)
    (hb : ∀ n sd S, I n sd S → ∃ b S1, c sd S = .ok b S1 ∧ if b then ∃ m, n = m + 1 ∧ (body sd S1).sat (I m) R else N sd S1) : ∀ (n : Nat) (sd : List SV) (S : List MO), I n sd S → ∀ k, n < k → (whileF c body k sd S).sat N R := by
  intro n
  induction n with
  | zero =>
    intro sd S h k hk
    obtain ⟨b, S1, hc, hr⟩ := hb 0 sd S h
    obtain ⟨j, rfl⟩ : ∃ j, k = j + 1 := ⟨k - 1, by omega⟩
    unfold whileF
    rw [hc]
    cases b with
    | false => exact .nx hr
    | true =>
      obtain ⟨m, hm, _⟩ := hr
      omega
  | succ n ih =>
    intro sd S h k hk
    obtain ⟨b, S1, hc, hr⟩ := hb (n + 1) sd S h
    obtain ⟨j, rfl⟩ : ∃ j, k = j + 1 := ⟨k - 1, by omega⟩
    unfold whileF
    rw [hc]
    cases b with
    | false => exact .nx hr
    | true =>
      obtain ⟨m, hm, hs⟩ := hr
      have hm' : n = m := by omega
      subst hm'
      show So.sat (match body sd S1 with
        | .nx sd2 S2 => whileF c body j sd2 S2
        | .rt d S2 => .rt d S2
        | .ex x sd2 S2 => .ex x sd2 S2
        | .bad => .bad) N R
      cases e : body sd S1 with
      | nx sd2 S2 => rw [e] at hs; exact ih sd2 S2 (sat_nx.mp hs) j (by omega)
      | rt d S2 => rw [e] at hs; exact .rt (sat_rt.mp hs)
      | ex x sd2 S2 => rw [e] at hs; exact (sat_ex hs).elim
      | bad => rw [e] at hs; exact (sat_bad hs).elim
/-- a loop over xs in a state that stays, that leaves with r x at the first x at which there is an r x -/
theorem for_find {α : Type} {t : Tg} {body : SF} {en : α → D} {S : List MO} (I : List SV → Prop) (r : α → Option D) : ∀ (xs : List α),
    (∀ x ∈ xs, ∀ sd, I sd → ∃ sd1, asgT t (en x) sd = some sd1 ∧ match r x with
      | some d => body sd1 S = .rt d S
      | none => ∃ sd2, I sd2 ∧ body sd1 S = .nx sd2 S) → ∀ sd, I sd → match xs.findSome? r with
      | some d => forF t body (xs.map en) sd S = .rt d S
      | none => ∃ sd', I sd' ∧ forF t body (xs.map en) sd S = .nx sd' S
  | [], _, sd, h => ⟨sd, h, rfl⟩
  | x :: xs, hb, sd, h => by
    obtain ⟨sd1, ha, hx⟩ := hb x (List.mem_cons_self ..) sd h
    rw [List.map_cons, for_cons ha, List.findSome?_cons]
    cases e : r x with
    | some d =>
      rw [e] at hx
      simp only at hx ⊢
      rw [hx]; rfl
    | none =>
      rw [e] at hx
      simp only at hx ⊢
      obtain ⟨sd2, h2, hx⟩ := hx
      rw [hx]
      exact for_find I r xs (fun y hy => hb y (List.mem_cons_of_mem _ hy)) sd2 h2
def FindStep (o : Option D) (I : List SV → Prop) (S : List MO) (r : So) : Prop := match o with
  | some d => r = .rt d S
  | none => ∃ sd2, I sd2 ∧ r = .nx sd2 S
theorem for_find_el {α : Type} {t : Tg} {body : SF} {en : α → D} {S : List MO} {P : So → Prop} (xs : List α) (I : List SV → Prop) (r : α → Option D)
    (hb : ∀ x ∈ xs, ∀ sd, I sd → ∃ sd1, asgT t (en x) sd = some sd1 ∧ FindStep (r x) I S (body sd1 S)) {sd : List SV} (h0 : I sd) (hs : ∀ d, xs.findSome? r = some d → P (.rt d S)) (hn : ∀ sd', I sd' → xs.findSome? r = none → P (.nx sd' S)) : P (forF t body (xs.map en) sd S) := by
  have q := for_find (t := t) (body := body) (en := en) (S := S) I r xs (fun x hx sd hi => by
    obtain ⟨sd1, h1, h2⟩ := hb x hx sd hi
    refine ⟨sd1, h1, ?_⟩
    unfold FindStep at h2
    cases e : r x with
    | some d => rw [e] at h2; exact h2
    | none => rw [e] at h2; exact h2) sd h0
  cases e : xs.findSome? r with
  | some d => rw [e] at q; rw [q]; exact hs d e
  | none =>
    rw [e] at q
    obtain ⟨sd', hi, q⟩ := q
    rw [q]; exact hn sd' hi e
/-- a loop by its invariant, whatever stands behind it -/
theorem for_el {α : Type} {t : Tg} {body : SF} {en : α → D} {P : So → Prop} (xs : List α) (I : List α → List SV → List MO → Prop) (R : D → List MO → Prop)
    (hb : ∀ x xs sd S, I (x :: xs) sd S → ∃ sd1, asgT t (en x) sd = some sd1 ∧ (body sd1 S).sat (I xs) R) {sd : List SV} {S : List MO} (h0 : I xs sd S) (hn : ∀ sd' S', I [] sd' S' → P (.nx sd' S')) (hr : ∀ d S', R d S' → P (.rt d S')) : P (forF t body (xs.map en) sd S) := by
  have q := for_inv (t := t) (body := body) (en := en) I R hb xs sd S h0
  cases e : forF t body (xs.map en) sd S with
  | nx sd' S' => rw [e] at q; exact hn sd' S' (sat_nx.mp q)
  | rt d S' => rw [e] at q; exact hr d S' (sat_rt.mp q)
  | ex x sd' S' => rw [e] at q; exact (sat_ex q).elim
  | bad => rw [e] at q; exact (sat_bad q).elim
/-- .. that no turn leaves -/
theorem for_go {α : Type} {t : Tg} {body : SF} {en : α → D} {P : So → Prop} (xs : List α) (I : List α → List SV → List MO → Prop)
    (hb : ∀ x xs sd S, I (x :: xs) sd S → ∃ sd1, asgT t (en x) sd = some sd1 ∧ (body sd1 S).sat (I xs) (fun _ _ => False)) {sd : List SV} {S : List MO} (h0 : I xs sd S) (hn : ∀ sd' S', I [] sd' S' → P (.nx sd' S')) : P (forF t body (xs.map en) sd S) :=
  for_el xs I (fun _ _ => False) hb h0 hn fun _ _ h => h.elim
theorem while_el {c : List SV → M Bool} {body : SF} {P : So → Prop} (I : Nat → List SV → List MO → Prop) (N : List SV → List MO → Prop) (R : D → List MO → Prop) (n : Nat) {k : Nat} {sd : List SV} {S : List MO} (h0 : I n sd S) (hk : n < k)
    (hb : ∀ n sd S, I n sd S → ∃ b S1, c sd S = .ok b S1 ∧ if b then ∃ m, n = m + 1 ∧ (body sd S1).sat (I m) R else N sd S1) (hn : ∀ sd' S', N sd' S' → P (.nx sd' S')) (hr : ∀ d S', R d S' → P (.rt d S')) : P (whileF c body k sd S) := by
  have q := while_inv (c := c) (body := body) I N R hb n sd S h0 k hk
  cases e : whileF c body k sd S with
  | nx sd' S' => rw [e] at q; exact hn sd' S' (sat_nx.mp q)
  | rt d S' => rw [e] at q; exact hr d S' (sat_rt.mp q)
  | ex x sd' S' => rw [e] at q; exact (sat_ex q).elim
  | bad => rw [e] at q; exact (sat_bad q).elim
/-- a loop that folds, in a state that stays -/
theorem for_fold {α β : Type} {t : Tg} {body : SF} {en : α → D} {S : List MO} (I : β → List SV → Prop) (f : β → α → β) : ∀ (xs : List α),
    (∀ x ∈ xs, ∀ b sd, I b sd → ∃ sd1 sd2, asgT t (en x) sd = some sd1 ∧ body sd1 S = .nx sd2 S ∧ I (f b x) sd2) → ∀ b sd, I b sd → ∃ sd', I (xs.foldl f b) sd' ∧ forF t body (xs.map en) sd S = .nx sd' S
  | [], _, b, sd, h => ⟨sd, h, rfl⟩
  | x :: xs, hb, b, sd, h => by
    obtain ⟨sd1, sd2, ha, hx, h2⟩ := hb x (List.mem_cons_self ..) b sd h
    rw [List.map_cons, for_cons ha, hx]
    exact for_fold I f xs (fun y hy => hb y (List.mem_cons_of_mem _ hy)) _ sd2 h2
@[simp] theorem filter_no {α : Type} {l : List α} : l.filter (fun _ => false) = [] := by
  induction l with
  | nil => rfl
  | cons x l ih => simpa using ih
@[simp] theorem itemsD_lst {ds : List D} : itemsD (.lst ds) = some ds := nrf rfl
@[simp] theorem itemsE_lst {ds : List D} : itemsE (.lst ds) = some ds := nrf rfl
@[simp] theorem itemsE_tup {ds : List D} : itemsE (.tup ds) = some ds := nrf rfl
@[simp] theorem itemsD_dct {b : Bool} {ks vs : List D} : itemsD (.dct b ks vs) = some ks := nrf rfl
@[simp] theorem itemsD_tup {ds : List D} : itemsD (.tup ds) = some ds := nrf rfl
@[simp] theorem lenD_lst {ds : List D} : lenD [.lst ds] = some (.int ds.length) := nrf rfl
@[simp] theorem lenD_tup {ds : List D} : lenD [.tup ds] = some (.int ds.length) := nrf rfl
@[simp] theorem tupleD_lst {ds : List D} : tupleD [.lst ds] = some (.tup ds) := nrf rfl
@[simp] theorem tupleD_tup {ds : List D} : tupleD [.tup ds] = some (.tup ds) := nrf rfl
@[simp] theorem listD_lst {ds : List D} : listD [.lst ds] = some (.lst ds) := nrf rfl
@[simp] theorem listD_tup {ds : List D} : listD [.tup ds] = some (.lst ds) := nrf rfl
@[simp] theorem intD_int {i : Int} : intD [.int i] = some (.int i) := nrf rfl
@[simp] theorem addD_int {i j : Int} : addD (.int i) (.int j) = some (.int (i + j)) := nrf rfl
@[simp] theorem subD_int {i j : Int} : subD (.int i) (.int j) = some (.int (i - j)) := nrf rfl
@[simp] theorem modD_int {i j : Int} : modD (.int i) (.int j) = if 0 < j then some (.int (i % j)) else none := nrf rfl
@[simp] theorem fdivD_int {i j : Int} : fdivD (.int i) (.int j) = if 0 < j ∧ j < 1073741824 then some (.int (i / j)) else none := nrf rfl
theorem mulD_int {i j : Int} : mulD (.int i) (.int j) = if (-(2 ^ 64) < i ∧ i < 2 ^ 64) ∨ (-(2 ^ 64) < j ∧ j < 2 ^ 64) then some (.int (i * j)) else none := rfl
theorem addD_lst {x y : List D} (h : x.length + y.length ≤ sizeLine) : addD (.lst x) (.lst y) = some (.lst (x ++ y)) := by
  show (if x.length + y.length ≤ sizeLine then some (D.lst (x ++ y)) else none) = _
  rw [if_pos h]
theorem addD_tup {x y : List D} (h : x.length + y.length ≤ sizeLine) : addD (.tup x) (.tup y) = some (.tup (x ++ y)) := by
  show (if x.length + y.length ≤ sizeLine then some (D.tup (x ++ y)) else none) = _
  rw [if_pos h]
@[simp] theorem min2D_int {i j : Int} : min2D [.int i, .int j] = some (.int (if j < i then j else i)) := nrf rfl
@[simp] theorem max2D_int {i j : Int} : max2D [.int i, .int j] = some (.int (if j > i then j else i)) := nrf rfl
@[simp] theorem zipM_lst {xs ys : List D} {S} : zipM [.lst xs, .lst ys] S = .ok (zipD xs ys) S := nrf rfl
@[simp] theorem zipM_tup {xs ys : List D} {S} : zipM [.tup xs, .tup ys] S = .ok (zipD xs ys) S := nrf rfl
@[simp] theorem enumM_ap {d : D} {S} : enumM [d] S = liftR ((itemsE d).map (numD 0)) S := by
  unfold enumM
  exact lift_ap
@[simp] theorem isi_non {t} : isiD t .non = (L2.kitB "NoneType" t).map .bl := nrf rfl
@[simp] theorem isi_bl {t b} : isiD t (.bl b) = (L2.kitB "bool" t).map .bl := nrf rfl
@[simp] theorem isi_int {t i} : isiD t (.int i) = (L2.kitB "int" t).map .bl := nrf rfl
@[simp] theorem isi_str {t i} : isiD t (.str i) = (L2.kitB "str" t).map .bl := nrf rfl
@[simp] theorem isi_lst {t i} : isiD t (.lst i) = (L2.kitB "list" t).map .bl := nrf rfl
@[simp] theorem isi_tup {t i} : isiD t (.tup i) = (L2.kitB "tuple" t).map .bl := nrf rfl
theorem cmp_eq_same {d : D} (h : ok60 d = true) (e : eqD d d = true) : cmpD .Eq d d = some (.bl true) := by
  have q : cmpD .Eq d d = if ok60 d && ok60 d then some (.bl (eqD d d)) else none := rfl
  rw [q, h, e]; rfl
@[simp] theorem eq_nil_nil : cmpD .Eq (.lst []) (.lst []) = some (.bl true) := cmp_eq_same (by simp [okD, okA]) (by simp [eqD, D.py, pyA, PyData.eqv, PyData.eqvAll])
@[simp] theorem cmp_lt_int {i j : Int} : cmpD .Lt (.int i) (.int j) = some (.bl (decide (i < j))) := nrf rfl
@[simp] theorem cmp_le_int {i j : Int} : cmpD .LtE (.int i) (.int j) = some (.bl (decide (i ≤ j))) := nrf rfl
@[simp] theorem cmp_gt_int {i j : Int} : cmpD .Gt (.int i) (.int j) = some (.bl (decide (i > j))) := nrf rfl
@[simp] theorem cmp_ge_int {i j : Int} : cmpD .GtE (.int i) (.int j) = some (.bl (decide (i ≥ j))) := nrf rfl
@[simp] theorem cmp_is_int {i : Int} : cmpD .Is (.int i) .non = some (.bl false) := nrf rfl
@[simp] theorem cmp_is_non : cmpD .Is .non .non = some (.bl true) := nrf rfl
@[simp] theorem cmp_isn_int {i : Int} : cmpD .IsNot (.int i) .non = some (.bl true) := nrf rfl
@[simp] theorem cmp_isn_non : cmpD .IsNot .non .non = some (.bl false) := nrf rfl
@[simp] theorem range_one {j : Int} (h : big62 j = true) : rangeD [.int j] = some ((List.range j.toNat).map fun i => .int (0 + (i : Nat))) := by
  show (if big62 j then _ else none) = _
  rw [if_pos h]
@[simp] theorem range_two {i j : Int} (h : big62 i = true) (h' : big62 j = true) : rangeD [.int i, .int j] = some ((List.range (j - i).toNat).map fun n => .int (i + (n : Nat))) := by
  show (if big62 i && big62 j then _ else none) = _
  rw [h, h']; rfl
theorem big62_of {i : Int} (h : -1000000000000 ≤ i) (h' : i ≤ 1000000000000) : big62 i = true := by
  unfold big62
  simp
  omega
end Q
set_option Elab.async false
set_option linter.all false
set_option maxRecDepth 100000
set_option maxHeartbeats 4000000
namespace Q
open PySem PySem.Spec PyProof.Rows
def dicR (o : Option SV) (k : Bool → List D → List D → So) : So := match o with
  | some (.dic b ks vs) => k b ks vs
  | _ => .bad
@[simp] theorem dicR_some {b ks vs k} : dicR (some (.dic b ks vs)) k = k b ks vs := nrf rfl
@[simp] theorem dicF_ap {i b sd S} : dicF i b sd S = .nx (sd.set i (.dic b [] [])) S := nrf rfl
@[simp] theorem dputK_ap {i b ks vs d k sd S} : dputK i b ks vs d k sd S = if keyOk b k = true ∧ ks.length < sizeLine then .nx (sd.set i (.dic b (dPut ks vs k d).1 (dPut ks vs k d).2)) S else .bad := nrf rfl
@[simp] theorem dputF_ap {i f g sd S} : dputF i f g sd S = (f sd S).stm (fun d sd S => dicR sd[i]? fun b ks vs => (g sd S).stm (dputK i b ks vs d) sd) sd := by
  unfold dputF
  rw [ofM_ap]
  rfl
def ownR (o : Option SV) (k : List D → So) : So := match o with
  | some (.own ds) => k ds
  | _ => .bad
@[simp] theorem ownR_some {ds k} : ownR (some (.own ds)) k = k ds := nrf rfl
@[simp] theorem appF_ap {i f sd S} : appF i f sd S = ownR sd[i]? fun ds => (f sd S).stm (fun d sd S => if ds.length < sizeLine then .nx (sd.set i (.own (ds ++ [d]))) S else .bad) sd := by
  unfold appF ownR
  cases sd[i]? with
  | none => rfl
  | some sv => cases sv <;> first | rfl | (cases f sd S <;> rfl)
def getG (d : D) (g h : EF) (sd : List SV) (S : List MO) : Res D := match d with
  | .dct b ks vs => (g sd S).bnd fun k S1 => (h sd S1).bnd fun x S2 => liftR (if keyOk b k then some ((dLook ks vs k).getD x) else none) S2
  | _ => .bad
@[simp] theorem getG_dct {b ks vs g h sd S} : getG (.dct b ks vs) g h sd S = (g sd S).bnd fun k S1 => (h sd S1).bnd fun x S2 => liftR (if keyOk b k then some ((dLook ks vs k).getD x) else none) S2 := nrf rfl
@[simp] theorem getE_ap {f g h sd S} : getE f g h sd S = (f sd S).bnd fun d S1 => getG d g h sd S1 := by
  unfold getE
  rw [bind_bnd]
  congr 1
  funext d S1
  unfold getG
  cases d <;> first | rfl | (simp only [getK, bind_bnd, lift_ap])
@[simp] theorem lvE_ap {f sd S} : lvE f sd S = (f sd S).bnd fun d S1 => liftR (valsLD d) S1 := by simp only [lvE, bind_bnd, lift_ap]
@[simp] theorem valsI_ap {f sd S} : valsI f sd S = (f sd S).bnd fun d S1 => liftR (valsD d) S1 := by simp only [valsI, bind_bnd, lift_ap]
@[simp] theorem valsD_dct {b ks vs} : valsD (.dct b ks vs) = some vs := nrf rfl
@[simp] theorem valsLD_dct {b ks vs} : valsLD (.dct b ks vs) = if vs.length ≤ sizeLine then some (.lst vs) else none := nrf rfl
@[simp] theorem in_dct {x b ks vs} : cmpD .In x (.dct b ks vs) = if keyOk b x then some (.bl (dLook ks vs x).isSome) else none := by cases x <;> exact nrf rfl
@[simp] theorem notin_dct {x b ks vs} : cmpD .NotIn x (.dct b ks vs) = if keyOk b x then some (.bl (!(dLook ks vs x).isSome)) else none := by cases x <;> exact nrf rfl
@[simp] theorem keyOk_int {i : Int} : keyOk false (.int i) = true := nrf rfl
theorem look_int {α : Type} (en : α → D) (i : Int) : ∀ (kvs : List (Int × α)), dLook (kvs.map fun p => D.int p.1) (kvs.map fun p => en p.2) (.int i) = ((kvs.find? fun p => decide (p.1 = i)).map fun p => en p.2)
  | [] => rfl
  | p :: kvs => by
    have ih := look_int en i kvs
    unfold dLook at *
    simp only [List.map_cons, List.zip_cons_cons, List.find?_cons, nkB_int]
    by_cases e : p.1 = i
    · simp [e]
    · simp only [e, decide_false]
      exact ih
theorem put_int {α : Type} (en : α → D) {kvs : List (Int × α)} {i : Int} (x : α) (h : ∀ p ∈ kvs, p.1 ≠ i) : dPut (kvs.map fun p => D.int p.1) (kvs.map fun p => en p.2) (.int i) (en x) = ((kvs ++ [(i, x)]).map (fun p => D.int p.1), (kvs ++ [(i, x)]).map fun p => en p.2) := by
  unfold dPut
  have n : ((kvs.map fun p => D.int p.1).any fun y => nkB y (.int i)) = false := by
    rw [List.any_map, List.any_eq_false]
    intro p hp
    simp [nkB_int, h p hp]
  rw [if_neg (by rw [n]; exact Bool.false_ne_true)]
  simp
theorem py_ints_ (l : List Int) : pyA (l.map .int) = l.map PyData.int := by
  induction l with
  | nil => rfl
  | cons a l ih => simp [pyA, D.py, ih]
theorem lt_rows (a b : List Int) : PySem.W.dataLt (eR a).py (eR b).py = decide (a < b) := by
  have e : ∀ r : List Int, (eR r).py = .tuple (r.map .int) := fun r => by simp [eR, D.py, py_ints_]
  rw [e, e, PySem.W.dataLt_tuple]
  exact PySem.W.dataLt_ints a b
theorem alike_ints : ∀ (a b : List Int), PySem.W.alikeAll (a.map PyData.int) (b.map .int) = true
  | [], [] => by simp [PySem.W.alikeAll]
  | [], _ :: _ => by simp [PySem.W.alikeAll]
  | _ :: _, [] => by simp [PySem.W.alikeAll]
  | a :: as, b :: bs => by simp [PySem.W.alikeAll, PySem.W.alike, alike_ints as bs]
theorem alike_rows (a b : List Int) : PySem.W.alike (eR a).py (eR b).py = true := by
  have e : ∀ r : List Int, (eR r).py = .tuple (r.map .int) := fun r => by simp [eR, D.py, py_ints_]
  rw [e, e]
  simp [PySem.W.alike, alike_ints]
theorem okA_ints : ∀ (l : List Int) (n : Nat), okA (l.map .int) (n + 1) = true
  | [], n => by simp [okA]
  | a :: l, n => by simp [okA, okD, okA_ints l n]
theorem ok_row (r : List Int) (n : Nat) : okD (eR r) (n + 2) = true := by simp [eR, okD, okA_ints]
def minR (x : List Int) (xs : List (List Int)) : List Int := xs.foldl (fun a y => if y < a then y else a) x
theorem minL_rows : ∀ (xs : List (List Int)) (x : List Int), minL (eR x) (xs.map eR) = eR (minR x xs)
  | [], _ => rfl
  | y :: xs, x => by
    have ih := minL_rows xs (if y < x then y else x)
    unfold minL minR at *
    simp only [List.map_cons, List.foldl_cons, lt_rows]
    rw [← ih]
    congr 1
    by_cases h : y < x <;> simp [h]
theorem mm_rows (rs : List (List Int)) : mmOk (rs.map eR) = true := by
  unfold mmOk
  simp only [Bool.and_eq_true, List.all_eq_true, List.mem_map, forall_exists_index, and_imp, forall_apply_eq_imp_iff₂, alike_rows, implies_true, and_true]
  refine ⟨fun r _ => ok_row r 58, fun r _ => ?_⟩
  simp [isNonPy, eR, D.py]
theorem min_rows (x : List Int) (xs : List (List Int)) : min1D [.lst ((x :: xs).map eR)] = some (eR (minR x xs)) := by
  show (if mmOk ((x :: xs).map eR) then some (minL (eR x) (xs.map eR)) else none) = _
  rw [mm_rows, minL_rows]
  rfl
theorem minR_spec : ∀ (xs : List (List Int)) (x : List Int), minR x xs ∈ x :: xs ∧ ∀ y ∈ x :: xs, minR x xs ≤ y
  | [], x => ⟨by simp [minR], fun y hy => by
    simp only [List.mem_singleton] at hy
    subst hy
    exact List.le_refl _⟩
  | z :: xs, x => by
    obtain ⟨h1, h2⟩ := minR_spec xs (if z < x then z else x)
    have e : minR x (z :: xs) = minR (if z < x then z else x) xs := rfl
    rw [e]
    have hz := h2 _ (List.mem_cons_self ..)
    refine ⟨?_, fun y hy => ?_⟩
    · rcases List.mem_cons.mp h1 with q | q
      · rw [q]; split <;> simp
      · exact List.mem_cons_of_mem _ (List.mem_cons_of_mem _ q)
    · rcases List.mem_cons.mp hy with q | q
      · subst q
        refine List.le_trans hz ?_
        split
        · rename_i h; exact List.le_of_lt h
        · exact List.le_refl _
      · rcases List.mem_cons.mp q with q | q
        · subst q
          refine List.le_trans hz ?_
          split
          · exact List.le_refl _
          · rename_i h; exact List.not_lt.mp h
        · exact h2 _ (List.mem_cons_of_mem _ q)
def leRB (a b : List Int) : Bool := !decide (b < a)
theorem sort_rows {rs : List (List Int)} (hl : rs.length ≤ sizeLine) (hn : ∀ r ∈ rs, r ≠ []) : sortedD [.lst (rs.map eR)] = some (.lst ((rs.mergeSort leRB).map eR)) := by
  have o : sortOk (rs.map eR) = true := by
    unfold sortOk
    simp only [Bool.and_eq_true, List.all_eq_true, List.mem_map, forall_exists_index, and_imp, forall_apply_eq_imp_iff₂, alike_rows, implies_true, Bool.or_eq_true, decide_eq_true_eq, List.length_map, hl, and_true]
    refine ⟨fun r _ => ok_row r 58, .inl fun r hr => ?_⟩
    have := hn r hr
    cases r with
    | nil => exact absurd rfl this
    | cons a l => rfl
  have e : sortL (rs.map eR) = (rs.mergeSort leRB).map eR := by
    unfold sortL
    symm
    refine List.map_mergeSort fun a _ b _ => ?_
    show leRB a b = !PySem.W.dataLt (eR b).py (eR a).py
    rw [lt_rows]
    rfl
  show (if sortOk (rs.map eR) then some (D.lst (sortL (rs.map eR))) else none) = _
  rw [o, e]; rfl
theorem sorted_rows (rs : List (List Int)) : (rs.mergeSort leRB).Pairwise fun a b => a ≤ b := by
  have q := List.pairwise_mergeSort (le := leRB) (fun a b c h1 h2 => by
    simp only [leRB, Bool.not_eq_true', decide_eq_false_iff_not, List.not_lt] at *
    exact List.le_trans h1 h2) (fun a b => by
    simp only [leRB, Bool.or_eq_true, Bool.not_eq_true', decide_eq_false_iff_not, List.not_lt]
    exact List.le_total _ _) rs
  exact q.imp fun h => by
    simp only [leRB, Bool.not_eq_true', decide_eq_false_iff_not, List.not_lt] at h
    exact h
end Q
set_option Elab.async false
set_option linter.all false
set_option maxRecDepth 100000
set_option maxHeartbeats 4000000
namespace Q
open PySem PySem.Spec PyProof.Rows L2
def F_is_within : SF := (seqF (ofM (andE (isiE "int" (getb 0)) (andE (notE (isiE "bool" (getb 0))) (chainE (cmpD .LtE) (cmpD .LtE) (getb 1) (getb 0) (getb 2)))) retF) nxF)
def g_is_within : List D → M D := runF 3 F_is_within
def F_has_items : SF := (seqF (ofM (andE (isiE "tuple" (getb 0)) (chainE (cmpD .LtE) (cmpD .LtE) (getb 1) (biE lenD (consA (getb 0) nilA)) (getb 2))) retF) nxF)
def g_has_items : List D → M D := runF 3 F_has_items
def F_ascends : SF := (seqF (ofM (biE allD (consA (frsE (compF (zipI (consA (getv 0) (consA (slE (getb 0) (partO (some (litE (.int 1)))) (partO none)) nilA))) (.tp [(.nm 1), (.nm 2)]) [1, 2] yesT (opE (cmpD .Lt) (getb 1) (getb 2)))) nilA)) retF) nxF)
def g_ascends : List D → M D := runF 3 F_ascends
def F_are_doors : SF := (seqF (ofM (notT (valT (callE g_has_items (consA (getv 0) (consA (litE (.int 1)) (consA (litE (.int 15)) nilA)))))) (ifF (seqF (ofM (litE (.bl false)) retF) nxF) nxF)) (seqF (ofM (seqI (getv 0)) (forF (.nm 2) (seqF (ofM (orT (notT (valT (callE g_has_items (consA (getv 2) (consA (litE (.int 2)) (consA (litE (.int 2)) nilA)))))) (notT (valT (biE allD (consA (frsE (compF (seqI (getv 2)) (.nm 3) [3] yesT (callE g_is_within (consA (getv 3) (consA (litE (.int 0)) (consA (opE subD (getb 1) (litE (.int 1))) nilA)))))) nilA))))) (ifF (seqF (ofM (litE (.bl false)) retF) nxF) nxF)) (seqF (ofM (valT (opE (cmpD .GtE) (ixE (getb 2) (litE (.int 0))) (ixE (getb 2) (litE (.int 1))))) (ifF (seqF (ofM (litE (.bl false)) retF) nxF) nxF)) nxF)))) (seqF (ofM (callE g_ascends (consA (getv 0) nilA)) retF) nxF)))
def g_are_doors : List D → M D := runF 4 F_are_doors
def F_is_near : SF := (seqF (ofM (orE (opE (cmpD .Eq) (getb 1) (getb 2)) (opE (cmpD .In) (tupE (consA (biE min2D (consA (getb 1) (consA (getb 2) nilA))) (consA (biE max2D (consA (getb 1) (consA (getb 2) nilA))) nilA))) (getb 0))) retF) nxF)
def g_is_near : List D → M D := runF 3 F_is_near
def F_is_row : SF := (seqF (ofM (orT (notT (valT (callE g_has_items (consA (getv 0) (consA (litE (.int 1)) (consA (getv 3) nilA)))))) (notT (valT (biE allD (consA (frsE (compF (seqI (getv 0)) (.nm 4) [4] yesT (callE g_is_within (consA (getv 4) (consA (litE (.int 0)) (consA (opE subD (getb 1) (litE (.int 1))) nilA)))))) nilA))))) (ifF (seqF (ofM (litE (.bl false)) retF) nxF) nxF)) (seqF (ofM (biE allD (consA (frsE (compF (zipI (consA (getv 0) (consA (slE (getb 0) (partO (some (litE (.int 1)))) (partO none)) nilA))) (.tp [(.nm 5), (.nm 6)]) [5, 6] yesT (callE g_is_near (consA (getv 2) (consA (getv 5) (consA (getv 6) nilA)))))) nilA)) retF) nxF))
def g_is_row : List D → M D := runF 7 F_is_row
def F_product_of : SF := (seqF (ofM (litE (.int 1)) (setF 1)) (seqF (ofM (seqI (getv 0)) (forF (.nm 2) (seqF (ofM (opE mulD (getb 1) (biE lenD (consA (getb 2) nilA))) (setF 1)) nxF))) (seqF (ofM (getv 1) retF) nxF)))
def g_product_of : List D → M D := runF 3 F_product_of
def F_is_house_value : SF := (seqF (ofM (orT (notT (valT (callE g_has_items (consA (getv 0) (consA (litE (.int 3)) (consA (litE (.int 3)) nilA)))))) (orT (notT (valT (callE g_is_within (consA (ixE (getb 0) (litE (.int 0))) (consA (litE (.int 2)) (consA (litE (.int 6)) nilA)))))) (notT (valT (callE g_are_doors (consA (ixE (getb 0) (litE (.int 1))) (consA (ixE (getb 0) (litE (.int 0))) nilA))))))) (ifF (seqF (ofM (litE (.bl false)) retF) nxF) nxF)) (seqF (ofM (getv 0) (asgF (.tp [(.nm 1), (.nm 2), (.nm 3)]))) (seqF (ofM (orT (notT (valT (callE g_has_items (consA (getv 3) (consA (litE (.int 1)) (consA (litE (.int 3)) nilA)))))) (notT (valT (biE allD (consA (frsE (compF (seqI (getv 3)) (.nm 4) [4] yesT (callE g_is_row (consA (getv 4) (consA (getv 1) (consA (getv 2) (consA (litE (.int 6)) nilA))))))) nilA))))) (ifF (seqF (ofM (litE (.bl false)) retF) nxF) nxF)) (seqF (ofM (andE (biE allD (consA (frsE (compF (seqI (getv 3)) (.nm 4) [4] yesT (callE g_is_near (consA (getv 2) (consA (ixE (getb 4) (negE (litE (.int 1)))) (consA (ixE (getb 4) (litE (.int 0))) nilA)))))) nilA)) (opE (cmpD .LtE) (callE g_product_of (consA (getv 3) nilA)) (litE (.int 60)))) retF) nxF))))
def g_is_house_value : List D → M D := runF 5 F_is_house_value
def F_need_house : SF := (seqF (ofM (notT (valT (callE g_is_house_value (consA (getv 0) nilA)))) (ifF (seqF (raiF 0) nxF) nxF)) nxF)
def g_need_house : List D → M D := runF 1 F_need_house
def F_need_room : SF := (seqF (ofM (notT (valT (callE g_is_within (consA (getv 1) (consA (litE (.int 0)) (consA (opE subD (ixE (getb 0) (litE (.int 0))) (litE (.int 1))) nilA)))))) (ifF (seqF (raiF 3) nxF) nxF)) nxF)
def g_need_room : List D → M D := runF 2 F_need_room
def F_need_walk : SF := (seqF (ofM (notT (valT (callE g_is_row (consA (getv 1) (consA (ixE (getb 0) (litE (.int 0))) (consA (ixE (getb 0) (litE (.int 1))) (consA (litE (.int 100)) nilA))))))) (ifF (seqF (raiF 4) nxF) nxF)) nxF)
def g_need_walk : List D → M D := runF 2 F_need_walk
def F_all_beginnings : SF := (seqF (ofM (lstE (consA (tupE nilA) nilA)) (setF 1)) (seqF (ofM (seqI (ixE (getb 0) (litE (.int 2)))) (forF (.nm 2) (seqF (ofM (frsE (compF2 (seqI (getv 1)) (.nm 3) [3, 4] yesT (rngI (consA (biE lenD (consA (getb 2) nilA)) nilA)) (.nm 4) [4] yesT (opE addD (getb 3) (tupE (consA (getv 4) nilA))))) (setF 1)) nxF))) (seqF (ofM (getv 1) retF) nxF)))
def g_all_beginnings : List D → M D := runF 5 F_all_beginnings
def F_rooms_at : SF := (seqF (ofM (biE tupleD (consA (frsE (compF (zipI (consA (getv 1) (consA (ixE (getb 0) (litE (.int 2))) nilA))) (.tp [(.nm 3), (.nm 4)]) [3, 4] yesT (ixE (getb 4) (opE modD (opE addD (getb 3) (getb 2)) (biE lenD (consA (getb 4) nilA)))))) nilA)) retF) nxF)
def g_rooms_at : List D → M D := runF 5 F_rooms_at
def F_is_met : SF := (seqF (ofM (callE g_rooms_at (consA (getv 0) (consA (getv 1) (consA (getv 2) nilA)))) (setF 5)) (seqF (ofM (valT (opE (cmpD .In) (getb 4) (getb 5))) (ifF (seqF (ofM (litE (.bl true)) retF) nxF) nxF)) (seqF (ofM (orT (valT (opE (cmpD .Is) (getb 3) (litE .non))) (valT (opE (cmpD .Eq) (getb 3) (getb 4)))) (ifF (seqF (ofM (litE (.bl false)) retF) nxF) nxF)) (seqF (ofM (opE (cmpD .In) (tupE (consA (getv 4) (consA (getv 3) nilA))) (zipE (consA (callE g_rooms_at (consA (getv 0) (consA (getv 1) (consA (opE subD (getb 2) (litE (.int 1))) nilA)))) (consA (getv 5) nilA)))) retF) nxF))))
def g_is_met : List D → M D := runF 6 F_is_met
def F_first_met : SF := (seqF (ofM (enumI (consA (getv 2) nilA)) (forF (.tp [(.nm 3), (.nm 4)]) (seqF (ofM (valT (callE g_is_met (consA (getv 0) (consA (getv 1) (consA (getv 3) (consA (iteE (valT (opE (cmpD .Gt) (getb 3) (litE (.int 0)))) (ixE (getb 2) (opE subD (getb 3) (litE (.int 1)))) (litE .non)) (consA (getv 4) nilA))))))) (ifF (seqF (ofM (getv 3) retF) nxF) nxF)) nxF))) (seqF (ofM (litE .non) retF) nxF))
def g_first_met : List D → M D := runF 5 F_first_met
def F_free_ones : SF := (seqF (ofM (frsE (compF (seqI (callE g_all_beginnings (consA (getv 0) nilA))) (.nm 2) [2] (valT (opE (cmpD .NotIn) (getb 1) (callE g_rooms_at (consA (getv 0) (consA (getv 2) (consA (litE (.int 0)) nilA)))))) (getv 2))) retF) nxF)
def g_free_ones : List D → M D := runF 3 F_free_ones
def F_is_unmet : SF := (seqF (ofM (biE allD (consA (frsE (compF (seqI (callE g_free_ones (consA (getv 0) (consA (ixE (getb 1) (litE (.int 0))) nilA)))) (.nm 2) [2] yesT (opE (cmpD .Is) (callE g_first_met (consA (getv 0) (consA (getv 2) (consA (getv 1) nilA)))) (litE .non)))) nilA)) retF) nxF)
def g_is_unmet : List D → M D := runF 3 F_is_unmet
def F_surely_unmet : SF := (seqF (ofM (callE g_need_house (consA (getv 0) nilA)) fun _ => nxF) (seqF (ofM (callE g_need_walk (consA (getv 0) (consA (getv 1) nilA))) fun _ => nxF) (seqF (ofM (callE g_is_unmet (consA (getv 0) (consA (getv 1) nilA))) retF) nxF)))
def g_surely_unmet : List D → M D := runF 2 F_surely_unmet
def F_longer_rows : SF := (seqF (dicF 4 false) (seqF (ofM (seqI (biE sortedD (consA (getb 2) nilA))) (forF (.nm 5) (seqF (ofM (rngI (consA (ixE (getb 0) (litE (.int 0))) nilA)) (forF (.nm 6) (seqF (ofM (andT (valT (opE (cmpD .NotIn) (getb 6) (getb 4))) (valT (callE g_is_near (consA (ixE (getb 0) (litE (.int 1))) (consA (ixE (getb 5) (negE (litE (.int 1)))) (consA (getv 6) nilA)))))) (ifF (seqF (ofM (notT (valT (biE anyD (consA (frsE (compF (seqI (getv 1)) (.nm 7) [7] yesT (callE g_is_met (consA (getv 0) (consA (getv 7) (consA (getv 3) (consA (ixE (getb 5) (negE (litE (.int 1)))) (consA (getv 6) nilA)))))))) nilA)))) (ifF (seqF (dputF 4 (opE addD (getb 5) (tupE (consA (getv 6) nilA))) (getb 6)) nxF) nxF)) nxF) nxF)) nxF))) nxF))) (seqF (frzF 4 (ofM (lvE (getv 4)) retF)) nxF)))
def g_longer_rows : List D → M D := runF 8 F_longer_rows
def F_safe_walk : SF := (seqF (ofM (callE g_need_house (consA (getv 0) nilA)) fun _ => nxF) (seqF (ofM (callE g_need_room (consA (getv 0) (consA (getv 1) nilA))) fun _ => nxF) (seqF (ofM (callE g_need_room (consA (getv 0) (consA (getv 2) nilA))) fun _ => nxF) (seqF (ofM (notT (valT (callE g_is_within (consA (getv 3) (consA (litE (.int 0)) (consA (litE (.int 12)) nilA)))))) (ifF (seqF (raiF 9) nxF) nxF)) (seqF (ofM (callE g_free_ones (consA (getv 0) (consA (getv 1) nilA))) (setF 4)) (seqF (ofM (lstE (consA (tupE (consA (getv 1) nilA)) nilA)) (setF 5)) (seqF (ofM (rngI (consA (opE addD (getb 3) (litE (.int 1))) nilA)) (forF (.nm 6) (seqF (ofM (frsE (compF (seqI (getv 5)) (.nm 8) [8] (valT (opE (cmpD .Eq) (ixE (getb 8) (negE (litE (.int 1)))) (getb 2))) (getv 8))) (setF 7)) (seqF (ofM (valT (opE (cmpD .NotEq) (getb 7) (lstE nilA))) (ifF (seqF (ofM (biE min1D (consA (getb 7) nilA)) retF) nxF) nxF)) (seqF (ofM (callE g_longer_rows (consA (getv 0) (consA (getv 4) (consA (getv 5) (consA (opE addD (getb 6) (litE (.int 1))) nilA))))) (setF 5)) nxF))))) (seqF (ofM (litE .non) retF) nxF))))))))
def g_safe_walk : List D → M D := runF 9 F_safe_walk
def F__law_deck : SF := (seqF (ofM (valT (opE (cmpD .GtE) (getb 0) (opE powD (litE (.int 10)) (litE (.int 18))))) (ifF (seqF (ofM (flsF (consA (opE subD (getb 0) (opE powD (litE (.int 10)) (litE (.int 18)))) (consA (opE modD (getb 0) (litE (.int 2147483579))) (consA (getv 1) nilA)))) locF) nxF) nxF)) (seqF (ofM (flsF (consA (litE (.int 0)) (consA (opE modD (getb 0) (litE (.int 2147483579))) (consA (getv 1) nilA)))) locF) nxF))
def g__law_deck : List D → M D := runF 2 F__law_deck
def F__law_pick : SF := (seqF (ofM (valT (opE (cmpD .Gt) (ixE (getb 0) (litE (.int 0))) (litE (.int 1)))) (ifF (seqF (ofM (opE modD (biE intD (consA (ixE (getb 0) (litE (.int 0))) nilA)) (getb 1)) (setF 2)) (seqF (lputF 0 (opE fdivD (ixE (getb 0) (litE (.int 0))) (getb 1)) (litE (.int 0))) (seqF (ofM (getv 2) retF) nxF))) nxF)) (seqF (lputF 0 (opE addD (ixE (getb 0) (litE (.int 2))) (litE (.int 1))) (litE (.int 2))) (seqF (ofM (opE modD (opE powD (opE addD (ixE (getb 0) (litE (.int 1))) (opE mulD (litE (.int 15485867)) (ixE (getb 0) (litE (.int 2))))) (litE (.int 5))) (litE (.int 2147483647))) (setF 3)) (seqF (ofM (opE fdivD (opE modD (opE powD (opE addD (getb 3) (opE mulD (litE (.int 7919)) (ixE (getb 0) (litE (.int 2))))) (litE (.int 3))) (litE (.int 2147483629))) (litE (.int 32))) (setF 2)) (seqF (ofM (opE modD (biE intD (consA (getb 2) nilA)) (getb 1)) retF) nxF)))))
def g__law_pick : List D → M D := runF 4 F__law_pick
def F__law_one : SF := (seqF (ofM (ixE (getb 1) (callE g__law_pick (consA (getv 0) (consA (biE lenD (consA (getb 1) nilA)) nilA)))) retF) nxF)
def g__law_one : List D → M D := runF 2 F__law_one
def F__law_sort : SF := (seqF (ofM (valT (isiE "bool" (getb 0))) (ifF (seqF (ofM (litE (.int 1)) retF) nxF) nxF)) (seqF (ofM (valT (isiE "int" (getb 0))) (ifF (seqF (ofM (litE (.int 2)) retF) nxF) nxF)) (seqF (ofM (valT (isiE "str" (getb 0))) (ifF (seqF (ofM (litE (.int 3)) retF) nxF) nxF)) (seqF (ofM (valT (isiE "list" (getb 0))) (ifF (seqF (ofM (litE (.int 4)) retF) nxF) nxF)) (seqF (ofM (iteE (valT (isiE "tuple" (getb 0))) (litE (.int 5)) (litE (.int 6))) retF) nxF)))))
def g__law_sort : List D → M D := runF 1 F__law_sort
def F__law_same (rec : List D → M D) : SF := (seqF (ofM (valT (opE (cmpD .NotEq) (callE g__law_sort (consA (getv 0) nilA)) (callE g__law_sort (consA (getv 1) nilA)))) (ifF (seqF (ofM (litE (.bl false)) retF) nxF) nxF)) (seqF (ofM (andT (valT (opE (cmpD .Gt) (callE g__law_sort (consA (getv 0) nilA)) (litE (.int 3)))) (valT (opE (cmpD .Lt) (callE g__law_sort (consA (getv 0) nilA)) (litE (.int 6))))) (ifF (seqF (ofM (valT (opE (cmpD .NotEq) (biE lenD (consA (getb 0) nilA)) (biE lenD (consA (getb 1) nilA)))) (ifF (seqF (ofM (litE (.bl false)) retF) nxF) nxF)) (seqF (ofM (opE (cmpD .Eq) (frsE (compF (enumI (consA (getv 0) nilA)) (.tp [(.nm 2), (.nm 3)]) [2, 3] (notT (valT (callE rec (consA (getv 3) (consA (ixE (getb 1) (getb 2)) nilA))))) (getv 2))) (lstE nilA)) retF) nxF)) nxF)) (seqF (ofM (opE (cmpD .Eq) (getb 0) (getb 1)) retF) nxF)))
def g__law_same : Nat → List D → M D
  | 0 => fun _ => M.bad
  | n + 1 => runF 4 (F__law_same (g__law_same n))
def F__law_kin (bt : Nat → Bool) (ax : Addr) : SF := (seqF (ofM (lstE (consA (isxE 0 ax (bt 0)) (consA (isxE 0 ax (bt 1)) (consA (isxE 0 ax (bt 2)) nilA)))) (setF 1)) (seqF (ofM (opE addD (getb 1) (lstE (consA (isxE 0 ax (bt 3)) (consA (isxE 0 ax (bt 4)) (consA (isxE 0 ax (bt 5)) nilA))))) (setF 1)) (seqF (ofM (opE addD (getb 1) (lstE (consA (isxE 0 ax (bt 6)) (consA (isxE 0 ax (bt 7)) (consA (isxE 0 ax (bt 8)) nilA))))) (setF 1)) (seqF (ofM (opE addD (getb 1) (lstE (consA (isxE 0 ax (bt 9)) (consA (isxE 0 ax (bt 10)) (consA (isxE 0 ax (bt 11)) nilA))))) (setF 1)) (seqF (ofM (opE addD (getb 1) (lstE (consA (isxE 0 ax (bt 12)) (consA (isxE 0 ax (bt 13)) (consA (isxE 0 ax (bt 14)) nilA))))) (setF 1)) (seqF (ofM (opE addD (getb 1) (lstE (consA (isxE 0 ax (bt 15)) (consA (isxE 0 ax (bt 16)) (consA (isxE 0 ax (bt 17)) nilA))))) (setF 1)) (seqF (ofM (litE (.str "house beginning tick room walk sights stand lot change number index bad none unlike undo many text +")) (setF 2)) (seqF (ofM (stE joinD (litE (.str " ")) (frsE (compF (zipLI (consA (stE splitD (getv 2) (litE (.str " "))) (consA (getv 1) nilA))) (.tp [(.nm 3), (.nm 4)]) [3, 4] (valT (getv 4)) (getv 3)))) retF) nxF))))))))
def g__law_kin (bt : Nat → Bool) : Addr → M D := runK 5 (F__law_kin bt)
def btK (k : Nat) (j : Nat) : Bool := j == k || j == 17
theorem isxE_at (a : Addr) (b : Bool) (sd : List SV) (S : List MO) : isxE 0 a b (.raw (.ref a) :: sd) S = .ok (.bl b) S := by
  show (if a = a then (pure (.bl b) : M D) else M.bad) S = _
  rw [if_pos rfl]
  rfl
theorem lst3_at (a : Addr) (b c d : Bool) (sd : List SV) (S : List MO) : lstE (consA (isxE 0 a b) (consA (isxE 0 a c) (consA (isxE 0 a d) nilA))) (.raw (.ref a) :: sd) S = .ok (.lst [.bl b, .bl c, .bl d]) S := by
  unfold lstE consA
  rw [bind_ap, bind_ap, isxE_at]
  simp only []
  rw [bind_ap, bind_ap, isxE_at]
  simp only []
  rw [bind_ap, bind_ap, isxE_at]
  rfl
theorem set_at {m : EF} {g : SF} {s0 s1 : SV} {sd : List SV} {S : List MO} {d : D} (h : m (s0 :: s1 :: sd) S = .ok d S) : seqF (ofM m (setF 1)) g (s0 :: s1 :: sd) S = g (s0 :: .val d :: sd) S := by
  unfold seqF ofM
  rw [h]
  rfl
theorem add_at {a : Addr} {xs : List D} {m : EF} {sd : List SV} {ys : List D} {S : List MO} (hm : m (.raw (.ref a) :: .val (.lst xs) :: sd) S = .ok (.lst ys) S) (hl : addD (.lst xs) (.lst ys) = some (.lst (xs ++ ys))) : opE addD (getb 1) m (.raw (.ref a) :: .val (.lst xs) :: sd) S = .ok (.lst (xs ++ ys)) S := by
  have e : opE addD (getb 1) m (.raw (.ref a) :: .val (.lst xs) :: sd) S = (m (.raw (.ref a) :: .val (.lst xs) :: sd) >>= fun y => M.lift (addD (.lst xs) y)) S := rfl
  rw [e, bind_ap, hm]
  show M.lift (addD (.lst xs) (.lst ys)) S = _
  rw [hl]
  rfl
def labL : List Str := ["house +", "beginning +", "tick +", "room +", "walk +", "sights +", "stand +", "lot +", "change +", "number +", "index +", "bad +", "none +", "unlike +", "undo +"]
def labK (k : Nat) : Str := labL.getD k ""
theorem kin_lab : ∀ k, k < 15 → ∀ (a : Addr) (S : List MO), g__law_kin (btK k) a S = .ok (.str (labK k)) S := by
  intro k hk a S
  have e : g__law_kin (btK k) a S = (match seqF (ofM (litE (.str "house beginning tick room walk sights stand lot change number index bad none unlike undo many text +")) (setF 2)) (seqF (ofM (stE joinD (litE (.str " ")) (frsE (compF (zipLI (consA (stE splitD (getv 2) (litE (.str " "))) (consA (getv 1) nilA))) (.tp [(.nm 3), (.nm 4)]) [3, 4] (valT (getv 4)) (getv 3)))) retF) nxF)
     [.raw (.ref a), .val (.lst [.bl (btK k 0), .bl (btK k 1), .bl (btK k 2), .bl (btK k 3), .bl (btK k 4), .bl (btK k 5), .bl (btK k 6), .bl (btK k 7), .bl (btK k 8), .bl (btK k 9), .bl (btK k 10), .bl (btK k 11), .bl (btK k 12), .bl (btK k 13), .bl (btK k 14), .bl (btK k 15), .bl (btK k 16), .bl (btK k 17)]), .un, .un, .un] S with
  | .nx _ S' => Res.ok .non S'
  | .rt d S' => .ok d S'
  | .ex x _ S' => .exc x S'
  | .bad => .bad) := by
    unfold g__law_kin runK F__law_kin
    rw [show sdK 5 a = .raw (.ref a) :: [.un, .un, .un, .un] from rfl]
    rw [set_at (lst3_at a _ _ _ _ S)]
    rw [set_at (add_at (lst3_at a _ _ _ _ S) rfl)]
    rw [set_at (add_at (lst3_at a _ _ _ _ S) rfl)]
    rw [set_at (add_at (lst3_at a _ _ _ _ S) rfl)]
    rw [set_at (add_at (lst3_at a _ _ _ _ S) rfl)]
    rw [set_at (add_at (lst3_at a _ _ _ _ S) rfl)]
    rfl
  rw [e]
  have all : ∀ k, k < 15 → k = 0 ∨ k = 1 ∨ k = 2 ∨ k = 3 ∨ k = 4 ∨ k = 5 ∨ k = 6 ∨ k = 7 ∨ k = 8 ∨ k = 9 ∨ k = 10 ∨ k = 11 ∨ k = 12 ∨ k = 13 ∨ k = 14 := by omega
  rcases all k hk with z | z | z | z | z | z | z | z | z | z | z | z | z | z | z <;> subst z <;> kernel_rfl

def F__law_known : SF := (seqF (ofM (tupE (consA (tupE (consA (tupE (consA (litE (.int 0)) (consA (litE (.int 1)) nilA))) (consA (tupE (consA (litE (.int 1)) (consA (litE (.int 2)) nilA))) nilA))) (consA (tupE (consA (tupE (consA (litE (.int 0)) (consA (litE (.int 1)) nilA))) (consA (tupE (consA (litE (.int 0)) (consA (litE (.int 2)) nilA))) (consA (tupE (consA (litE (.int 1)) (consA (litE (.int 2)) nilA))) nilA)))) nilA))) (asgF (.tp [(.nm 0), (.nm 1)]))) (seqF (ofM (consA (tupE (consA (litE (.int 3)) (consA (getv 0) (consA (tupE (consA (tupE (consA (litE (.int 0)) (consA (litE (.int 1)) (consA (litE (.int 2)) (consA (litE (.int 1)) nilA))))) nilA)) nilA)))) (consA (tupE (consA (litE (.int 3)) (consA (getv 1) (consA (tupE (consA (tupE (consA (litE (.int 0)) (consA (litE (.int 1)) (consA (litE (.int 2)) nilA)))) nilA)) nilA)))) nilA)) (parF 2 3)) (seqF (ofM (tupE (consA (getv 2) (consA (getv 3) (consA (tupE (consA (litE (.int 2)) (consA (tupE (consA (tupE (consA (litE (.int 0)) (consA (litE (.int 1)) nilA))) nilA)) (consA (tupE (consA (tupE (consA (litE (.int 0)) (consA (litE (.int 0)) (consA (litE (.int 1)) nilA)))) nilA)) nilA)))) (consA (tupE (consA (litE (.int 3)) (consA (getv 1) (consA (tupE (consA (tupE (consA (litE (.int 0)) (consA (litE (.int 1)) (consA (litE (.int 2)) nilA)))) (consA (tupE (consA (litE (.int 0)) (consA (litE (.int 2)) (consA (litE (.int 1)) nilA)))) nilA))) nilA)))) nilA))))) retF) nxF)))
def g__law_known : List D → M D := runF 4 F__law_known
def F__law_by : SF := (seqF (ofM (frsE (compF (seqI (ixE (getb 0) (litE (.int 1)))) (.tp [(.nm 3), (.nm 4)]) [3, 4] (valT (opE (cmpD .Eq) (getb 4) (getb 1))) (getv 3))) (setF 2)) (seqF (ofM (biE sortedD (consA (opE addD (getb 2) (frsE (compF (seqI (ixE (getb 0) (litE (.int 1)))) (.tp [(.nm 3), (.nm 4)]) [3, 4] (valT (opE (cmpD .Eq) (getb 3) (getb 1))) (getv 4)))) nilA)) retF) nxF))
def g__law_by : List D → M D := runF 5 F__law_by
def fuel__law_a_round : Nat := 1000
def F__law_a_round : SF := (seqF (ofM (flsF (consA (callE g__law_pick (consA (getv 0) (consA (ixE (getb 1) (litE (.int 0))) nilA))) nilA)) (ownF 3)) (seqF (ofM (rngI (consA (callE g__law_pick (consA (getv 0) (consA (getv 2) nilA))) nilA)) (forF (.nm 4) (seqF (appF 3 (callE g__law_one (consA (getv 0) (consA (opE addD (lstE (consA (ixE (getb 3) (negE (litE (.int 1)))) nilA)) (opE mulD (callE g__law_by (consA (getv 1) (consA (ixE (getb 3) (negE (litE (.int 1)))) nilA))) (litE (.int 2)))) nilA)))) nxF))) (seqF (whileF (andT (valT (opE (cmpD .NotEq) (ixE (getb 3) (negE (litE (.int 1)))) (ixE (getb 3) (litE (.int 0))))) (valT (opE (cmpD .NotIn) (ixE (getb 3) (negE (litE (.int 1)))) (callE g__law_by (consA (getv 1) (consA (ixE (getb 3) (litE (.int 0))) nilA)))))) (seqF (ofM (slF (getb 3) (partO none) (partO (some (negE (litE (.int 1)))))) (ownF 3)) nxF) fuel__law_a_round) (seqF (ofM (biE tupleD (consA (getb 3) nilA)) retF) nxF))))
def g__law_a_round : List D → M D := runF 5 F__law_a_round
def F__law_a_house : SF := (seqF (ofM (opE addD (litE (.int 2)) (callE g__law_pick (consA (getv 0) (consA (litE (.int 4)) nilA)))) (setF 3)) (seqF (ofM (frsE (compF (rngI (consA (opE subD (getb 3) (litE (.int 1))) nilA)) (.nm 5) [5] yesT (tupE (consA (getv 5) (consA (opE addD (getb 5) (litE (.int 1))) nilA))))) (setF 4)) (seqF (ofM (rngI (consA (getv 3) nilA)) (forF (.nm 5) (seqF (ofM (opE addD (getb 4) (frsE (compF (rngI (consA (opE addD (getb 5) (litE (.int 2))) (consA (getv 3) nilA))) (.nm 11) [11] (valT (opE (cmpD .Eq) (callE g__law_pick (consA (getv 0) (consA (litE (.int 3)) nilA))) (litE (.int 0)))) (tupE (consA (getv 5) (consA (getv 11) nilA)))))) (setF 4)) nxF))) (seqF (ofM (andT (valT (opE (cmpD .Gt) (getb 3) (litE (.int 2)))) (valT (opE (cmpD .Eq) (callE g__law_pick (consA (getv 0) (consA (litE (.int 6)) nilA))) (litE (.int 0))))) (ifF (seqF (ofM (slE (getb 4) (partO (some (litE (.int 1)))) (partO none)) (setF 4)) nxF) nxF)) (seqF (ofM (tupE (consA (getv 3) (consA (biE tupleD (consA (biE sortedD (consA (getb 4) nilA)) nilA)) nilA))) (setF 6)) (seqF (ofM (consA (tupE (consA (callE g__law_a_round (consA (getv 0) (consA (getv 6) (consA (getv 1) nilA)))) nilA)) (consA (litE (.int 1)) nilA)) (parF 7 8)) (seqF (ofM (rngI (consA (callE g__law_pick (consA (getv 0) (consA (getv 2) nilA))) nilA)) (forF (.nm 9) (seqF (ofM (callE g__law_a_round (consA (getv 0) (consA (getv 6) (consA (getv 1) nilA)))) (setF 10)) (seqF (ofM (opE mulD (getb 8) (biE lenD (consA (ixE (getb 7) (negE (litE (.int 1)))) nilA))) (setF 8)) (seqF (ofM (valT (opE (cmpD .LtE) (opE mulD (getb 8) (biE lenD (consA (getb 10) nilA))) (litE (.int 36)))) (ifF (seqF (ofM (opE addD (getb 7) (tupE (consA (getv 10) nilA))) (setF 7)) nxF) nxF)) nxF))))) (seqF (ofM (opE addD (getb 6) (tupE (consA (getv 7) nilA))) retF) nxF))))))))
def g__law_a_house : List D → M D := runF 12 F__law_a_house
def F__law_starts : SF := (seqF (ofM (lstE (consA (tupE nilA) nilA)) (setF 1)) (seqF (ofM (seqI (ixE (getb 0) (litE (.int 2)))) (forF (.nm 2) (seqF (ofM (lstE nilA) (setF 3)) (seqF (ofM (seqI (getv 1)) (forF (.nm 4) (seqF (ofM (opE addD (getb 3) (frsE (compF (rngI (consA (biE lenD (consA (getb 2) nilA)) nilA)) (.nm 5) [5] yesT (opE addD (getb 4) (tupE (consA (getv 5) nilA)))))) (setF 3)) nxF))) (seqF (ofM (getv 3) (setF 1)) nxF))))) (seqF (ofM (getv 1) retF) nxF)))
def g__law_starts : List D → M D := runF 6 F__law_starts
def F__law_there : SF := (seqF (ofM (frsE (compF (zipI (consA (getv 1) (consA (ixE (getb 0) (litE (.int 2))) nilA))) (.tp [(.nm 3), (.nm 4)]) [3, 4] yesT (ixE (getb 4) (opE modD (biE intD (consA (opE addD (getb 3) (getb 2)) nilA)) (biE lenD (consA (getb 4) nilA)))))) retF) nxF)
def g__law_there : List D → M D := runF 5 F__law_there
def F__law_a_walk : SF := (seqF (ofM (flsF (consA (callE g__law_pick (consA (getv 0) (consA (ixE (getb 1) (litE (.int 0))) nilA))) nilA)) (ownF 3)) (seqF (ofM (rngI (consA (opE subD (getb 2) (litE (.int 1))) nilA)) (forF (.nm 4) (seqF (appF 3 (callE g__law_one (consA (getv 0) (consA (opE addD (lstE (consA (ixE (getb 3) (negE (litE (.int 1)))) nilA)) (callE g__law_by (consA (getv 1) (consA (ixE (getb 3) (negE (litE (.int 1)))) nilA)))) nilA)))) nxF))) (seqF (ofM (biE tupleD (consA (getb 3) nilA)) retF) nxF)))
def g__law_a_walk : List D → M D := runF 5 F__law_a_walk
def F__law_caught : SF := (seqF (ofM (rngI (consA (biE lenD (consA (getb 2) nilA)) nilA)) (forF (.nm 3) (seqF (ofM (callE g__law_there (consA (getv 0) (consA (getv 1) (consA (getv 3) nilA)))) (setF 4)) (seqF (ofM (valT (opE (cmpD .In) (ixE (getb 2) (getb 3)) (getb 4))) (ifF (seqF (ofM (getv 3) retF) nxF) nxF)) (seqF (ofM (andT (valT (opE (cmpD .Gt) (getb 3) (litE (.int 0)))) (valT (opE (cmpD .NotEq) (ixE (getb 2) (getb 3)) (ixE (getb 2) (opE subD (getb 3) (litE (.int 1))))))) (ifF (seqF (ofM (callE g__law_there (consA (getv 0) (consA (getv 1) (consA (opE subD (getb 3) (litE (.int 1))) nilA)))) (setF 5)) (seqF (ofM (rngI (consA (biE lenD (consA (getb 4) nilA)) nilA)) (forF (.nm 6) (seqF (ofM (andT (valT (opE (cmpD .Eq) (ixE (getb 5) (getb 6)) (ixE (getb 2) (getb 3)))) (valT (opE (cmpD .Eq) (ixE (getb 4) (getb 6)) (ixE (getb 2) (opE subD (getb 3) (litE (.int 1))))))) (ifF (seqF (ofM (getv 3) retF) nxF) nxF)) nxF))) nxF)) nxF)) nxF))))) (seqF (ofM (litE .non) retF) nxF))
def g__law_caught : List D → M D := runF 7 F__law_caught
def F__law_free : SF := (seqF (ofM (frsE (compF (seqI (callE g__law_starts (consA (getv 0) nilA))) (.nm 3) [3] (valT (opE (cmpD .NotIn) (ixE (getb 1) (litE (.int 0))) (callE g__law_there (consA (getv 0) (consA (getv 3) (consA (litE (.int 0)) nilA)))))) (getv 3))) (setF 2)) (seqF (ofM (opE (cmpD .Eq) (frsE (compF (seqI (getv 2)) (.nm 3) [3] (valT (opE (cmpD .IsNot) (callE g__law_caught (consA (getv 0) (consA (getv 3) (consA (getv 1) nilA)))) (litE .non))) (litE (.int 1)))) (lstE nilA)) retF) nxF))
def g__law_free : List D → M D := runF 4 F__law_free
def F__law_shortest : SF := (seqF (ofM (lstE (consA (tupE (consA (getv 1) nilA)) nilA)) (setF 4)) (seqF (ofM (rngI (consA (opE addD (getb 3) (litE (.int 1))) nilA)) (forF (.nm 5) (seqF (ofM (frsE (compF (seqI (getv 4)) (.nm 8) [8] (valT (opE (cmpD .Eq) (ixE (getb 8) (negE (litE (.int 1)))) (getb 2))) (getv 8))) (setF 6)) (seqF (ofM (valT (opE (cmpD .NotEq) (getb 6) (lstE nilA))) (ifF (seqF (ofM (biE min1D (consA (getb 6) nilA)) retF) nxF) nxF)) (seqF (ofM (flsF nilA) (ownF 7)) (seqF (ofM (seqI (getv 4)) (forF (.nm 8) (seqF (ofM (seqI (opE addD (lstE (consA (ixE (getb 8) (negE (litE (.int 1)))) nilA)) (callE g__law_by (consA (getv 0) (consA (ixE (getb 8) (negE (litE (.int 1)))) nilA))))) (forF (.nm 9) (seqF (ofM (valT (callE g__law_free (consA (getv 0) (consA (opE addD (getb 8) (tupE (consA (getv 9) nilA))) nilA)))) (ifF (seqF (appF 7 (opE addD (getb 8) (tupE (consA (getv 9) nilA)))) nxF) nxF)) nxF))) nxF))) (seqF (ofM (slE (getb 7) (partO none) (partO (some (litE (.int 400))))) (setF 4)) nxF))))))) (seqF (ofM (litE .non) retF) nxF)))
def g__law_shortest : List D → M D := runF 10 F__law_shortest
def F__law_written : SF := (seqF (ofM (callE g__law_known nilA) (asgF (.tp [(.nm 0), (.nm 1), (.nm 2), (.nm 3)]))) (seqF (ofM (orT (notT (valT (callE g_surely_unmet (consA (getv 0) (consA (tupE (consA (litE (.int 2)) nilA)) nilA))))) (orT (valT (callE g_surely_unmet (consA (getv 0) (consA (tupE (consA (litE (.int 2)) (consA (litE (.int 2)) nilA))) nilA)))) (notT (valT (callE g_surely_unmet (consA (getv 1) (consA (tupE (consA (litE (.int 0)) (consA (litE (.int 1)) (consA (litE (.int 2)) (consA (litE (.int 0)) (consA (litE (.int 1)) nilA)))))) nilA))))))) (ifF (seqF (ofM (litE (.bl false)) retF) nxF) nxF)) (seqF (ofM (orT (valT (opE (cmpD .NotEq) (callE g_safe_walk (consA (getv 1) (consA (litE (.int 0)) (consA (litE (.int 1)) (consA (litE (.int 12)) nilA))))) (tupE (consA (litE (.int 0)) (consA (litE (.int 1)) nilA))))) (valT (opE (cmpD .NotEq) (callE g_safe_walk (consA (getv 1) (consA (litE (.int 0)) (consA (litE (.int 2)) (consA (litE (.int 12)) nilA))))) (tupE (consA (litE (.int 0)) (consA (litE (.int 1)) (consA (litE (.int 2)) nilA))))))) (ifF (seqF (ofM (litE (.bl false)) retF) nxF) nxF)) (seqF (ofM (orT (valT (opE (cmpD .IsNot) (callE g_safe_walk (consA (getv 1) (consA (litE (.int 0)) (consA (litE (.int 2)) (consA (litE (.int 1)) nilA))))) (litE .non))) (valT (opE (cmpD .IsNot) (callE g_safe_walk (consA (getv 0) (consA (litE (.int 0)) (consA (litE (.int 2)) (consA (litE (.int 12)) nilA))))) (litE .non)))) (ifF (seqF (ofM (litE (.bl false)) retF) nxF) nxF)) (seqF (ofM (tupE (consA (litE (.int 4)) (consA (tupE (consA (tupE (consA (litE (.int 0)) (consA (litE (.int 1)) nilA))) (consA (tupE (consA (litE (.int 0)) (consA (litE (.int 2)) nilA))) (consA (tupE (consA (litE (.int 1)) (consA (litE (.int 3)) nilA))) (consA (tupE (consA (litE (.int 2)) (consA (litE (.int 3)) nilA))) nilA))))) (consA (tupE (consA (tupE (consA (litE (.int 0)) nilA)) nilA)) nilA)))) (setF 4)) (seqF (ofM (orT (valT (opE (cmpD .NotEq) (callE g_safe_walk (consA (getv 4) (consA (litE (.int 1)) (consA (litE (.int 2)) (consA (litE (.int 12)) nilA))))) (tupE (consA (litE (.int 1)) (consA (litE (.int 3)) (consA (litE (.int 2)) nilA)))))) (valT (opE (cmpD .NotEq) (callE g_safe_walk (consA (tupE (consA (litE (.int 4)) (consA (ixE (getb 4) (litE (.int 1))) (consA (tupE (consA (tupE (consA (litE (.int 3)) nilA)) nilA)) nilA)))) (consA (litE (.int 1)) (consA (litE (.int 2)) (consA (litE (.int 2)) nilA))))) (tupE (consA (litE (.int 1)) (consA (litE (.int 0)) (consA (litE (.int 2)) nilA))))))) (ifF (seqF (ofM (litE (.bl false)) retF) nxF) nxF)) (seqF (ofM (tupE (consA (litE (.int 5)) (consA (tupE (consA (tupE (consA (litE (.int 0)) (consA (litE (.int 1)) nilA))) (consA (tupE (consA (litE (.int 0)) (consA (litE (.int 2)) nilA))) (consA (tupE (consA (litE (.int 1)) (consA (litE (.int 3)) nilA))) (consA (tupE (consA (litE (.int 2)) (consA (litE (.int 3)) nilA))) (consA (tupE (consA (litE (.int 3)) (consA (litE (.int 4)) nilA))) nilA)))))) (consA (tupE (consA (tupE (consA (litE (.int 4)) nilA)) nilA)) nilA)))) (setF 5)) (seqF (ofM (andE (opE (cmpD .Eq) (callE g_safe_walk (consA (getv 5) (consA (litE (.int 0)) (consA (litE (.int 3)) (consA (litE (.int 2)) nilA))))) (tupE (consA (litE (.int 0)) (consA (litE (.int 1)) (consA (litE (.int 3)) nilA))))) (opE (cmpD .Eq) (callE g_safe_walk (consA (getv 0) (consA (litE (.int 0)) (consA (litE (.int 0)) (consA (litE (.int 0)) nilA))))) (tupE (consA (litE (.int 0)) nilA)))) retF) nxF))))))))
def g__law_written : List D → M D := runF 6 F__law_written
def F_law : SF := (seqF (ofM (seqI (slE (opE addD (lstE (consA (litE (.int 0)) nilA)) (getb 0)) (partO none) (partO (some (litE (.int 10)))))) (forF (.nm 1) (seqF (ofM (callE g__law_deck (consA (getv 1) (consA (litE (.int 3)) nilA))) (setF 2)) (seqF (ofM (rngI (consA (litE (.int 2)) nilA)) (forF (.nm 3) (seqF (ofM (callE g__law_a_house (consA (getv 2) (consA (litE (.int 5)) (consA (litE (.int 2)) nilA)))) (setF 4)) (seqF (ofM (rngI (consA (litE (.int 4)) nilA)) (forF (.nm 5) (seqF (ofM (callE g__law_a_walk (consA (getv 2) (consA (getv 4) (consA (opE addD (litE (.int 1)) (callE g__law_pick (consA (getv 2) (consA (litE (.int 5)) nilA)))) nilA)))) (setF 6)) (seqF (ofM (notT (valT (callE (g__law_same 8) (consA (callE g_surely_unmet (consA (getv 4) (consA (getv 6) nilA))) (consA (callE g__law_free (consA (getv 4) (consA (getv 6) nilA))) nilA))))) (ifF (seqF (ofM (litE (.bl false)) retF) nxF) nxF)) nxF)))) (seqF (ofM (consA (callE g__law_pick (consA (getv 2) (consA (ixE (getb 4) (litE (.int 0))) nilA))) (consA (callE g__law_pick (consA (getv 2) (consA (ixE (getb 4) (litE (.int 0))) nilA))) nilA)) (parF 7 8)) (seqF (ofM (seqI (tupE (consA (litE (.int 0)) (consA (litE (.int 1)) (consA (litE (.int 3)) nilA))))) (forF (.nm 9) (seqF (ofM (callE g__law_shortest (consA (getv 4) (consA (getv 7) (consA (getv 8) (consA (getv 9) nilA))))) (setF 10)) (seqF (ofM (notT (valT (callE (g__law_same 8) (consA (callE g_safe_walk (consA (getv 4) (consA (getv 7) (consA (getv 8) (consA (getv 9) nilA))))) (consA (getv 10) nilA))))) (ifF (seqF (ofM (litE (.bl false)) retF) nxF) nxF)) nxF)))) nxF)))))) (seqF (ofM (valT (opE (cmpD .NotEq) (tryE labK (callE g_surely_unmet (consA (litE .non) (consA (litE .non) nilA)))) (litE (.str "house +")))) (ifF (seqF (ofM (litE (.bl false)) retF) nxF) nxF)) (seqF (ofM (valT (opE (cmpD .NotEq) (tryE labK (callE g_surely_unmet (consA (getv 4) (consA (tupE nilA) nilA)))) (litE (.str "walk +")))) (ifF (seqF (ofM (litE (.bl false)) retF) nxF) nxF)) (seqF (ofM (valT (opE (cmpD .NotEq) (tryE labK (callE g_safe_walk (consA (litE .non) (consA (litE .non) (consA (litE .non) (consA (litE .non) nilA)))))) (litE (.str "house +")))) (ifF (seqF (ofM (litE (.bl false)) retF) nxF) nxF)) (seqF (ofM (seqI (lstE (consA (litE .non) (consA (negE (litE (.int 1))) (consA (ixE (getb 4) (litE (.int 0))) (consA (litE (.bl true)) (consA (litE (.str "0")) nilA))))))) (forF (.nm 11) (seqF (ofM (valT (opE (cmpD .NotEq) (tryE labK (callE g_safe_walk (consA (getv 4) (consA (getv 11) (consA (litE .non) (consA (litE .non) nilA)))))) (litE (.str "room +")))) (ifF (seqF (ofM (litE (.bl false)) retF) nxF) nxF)) (seqF (ofM (valT (opE (cmpD .NotEq) (tryE labK (callE g_safe_walk (consA (getv 4) (consA (litE (.int 0)) (consA (getv 11) (consA (litE .non) nilA)))))) (litE (.str "room +")))) (ifF (seqF (ofM (litE (.bl false)) retF) nxF) nxF)) nxF)))) (seqF (ofM (seqI (lstE (consA (litE .non) (consA (negE (litE (.int 1))) (consA (litE (.int 13)) (consA (litE (.bl true)) nilA)))))) (forF (.nm 11) (seqF (ofM (valT (opE (cmpD .NotEq) (tryE labK (callE g_safe_walk (consA (getv 4) (consA (litE (.int 0)) (consA (litE (.int 0)) (consA (getv 11) nilA)))))) (litE (.str "number +")))) (ifF (seqF (ofM (litE (.bl false)) retF) nxF) nxF)) nxF))) nxF))))))))) (seqF (ofM (callE g__law_written nilA) retF) nxF))
def g_law : List D → M D := runF 12 F_law
end Q
set_option Elab.async false
set_option linter.all false
set_option maxRecDepth 100000
set_option maxHeartbeats 4000000
namespace Q
open PySem PySem.Spec PyProof.Rows L2
def kinN : List Str := ["InvalidHouse", "InvalidBeginning", "InvalidTick", "InvalidRoom", "InvalidWalk", "InvalidSights", "InvalidStand", "InvalidLot", "InvalidChange", "InvalidNumber", "InvalidIndex", "BadStep", "NoBeginning", "Unlike", "NothingToUndo", "TooMany", "InvalidText", "ValueError"]
def topS (i : Nat) : Stmt := PySem.Challenge.pw_patrolsuntold_k03_whole_walks_without_lo.main.body.getD i (.Pass ⟨0, 0, 0, 0⟩)
structure Gs (T : Tb) (mg : Str → Option Value) (base : Heap) : Prop where
  d_is_within : DefOk T mg "is_within" (topS 20) 0 ["value", "low", "high"]
  d_has_items : DefOk T mg "has_items" (topS 21) 1 ["value", "low", "high"]
  d_ascends : DefOk T mg "ascends" (topS 22) 2 ["value"]
  d_are_doors : DefOk T mg "are_doors" (topS 23) 3 ["value", "rooms"]
  d_is_near : DefOk T mg "is_near" (topS 24) 4 ["doors", "one", "other"]
  d_is_row : DefOk T mg "is_row" (topS 25) 5 ["value", "rooms", "doors", "most"]
  d_product_of : DefOk T mg "product_of" (topS 26) 6 ["rounds"]
  d_is_house_value : DefOk T mg "is_house_value" (topS 27) 7 ["value"]
  d_need_house : DefOk T mg "need_house" (topS 28) 8 ["value"]
  d_need_room : DefOk T mg "need_room" (topS 29) 9 ["house", "value"]
  d_need_walk : DefOk T mg "need_walk" (topS 30) 10 ["house", "value"]
  d_all_beginnings : DefOk T mg "all_beginnings" (topS 31) 11 ["house"]
  d_rooms_at : DefOk T mg "rooms_at" (topS 32) 12 ["house", "beginning", "tick"]
  d_is_met : DefOk T mg "is_met" (topS 34) 13 ["house", "beginning", "tick", "before", "here"]
  d_first_met : DefOk T mg "first_met" (topS 35) 14 ["house", "beginning", "walk"]
  d_free_ones : DefOk T mg "free_ones" (topS 36) 15 ["house", "room"]
  d_is_unmet : DefOk T mg "is_unmet" (topS 37) 16 ["house", "walk"]
  d_surely_unmet : DefOk T mg "surely_unmet" (topS 38) 17 ["house", "walk"]
  d_safe_walk : DefOk T mg "safe_walk" (topS 39) 18 ["house", "room", "goal", "most"]
  d_longer_rows : DefOk T mg "longer_rows" (topS 40) 19 ["house", "some", "rows", "tick"]
  d__law_deck : DefOk T mg "_law_deck" (topS 42) 20 ["cell", "turn"]
  d__law_pick : DefOk T mg "_law_pick" (topS 43) 21 ["deck", "size"]
  d__law_one : DefOk T mg "_law_one" (topS 44) 22 ["deck", "some"]
  d__law_sort : DefOk T mg "_law_sort" (topS 45) 23 ["thing"]
  d__law_same : DefOk T mg "_law_same" (topS 46) 24 ["told", "due"]
  d__law_kin : DefOk T mg "_law_kin" (topS 47) 25 ["e"]
  d__law_try : DefOk T mg "_law_try" (topS 48) 26 ["call_so"]
  d__law_known : DefOk T mg "_law_known" (topS 49) 27 []
  d__law_by : DefOk T mg "_law_by" (topS 50) 28 ["house_so", "room_so"]
  d__law_a_round : DefOk T mg "_law_a_round" (topS 51) 29 ["deck", "house_so", "most"]
  d__law_a_house : DefOk T mg "_law_a_house" (topS 52) 30 ["deck", "most", "guards"]
  d__law_starts : DefOk T mg "_law_starts" (topS 53) 31 ["house_so"]
  d__law_there : DefOk T mg "_law_there" (topS 54) 32 ["house_so", "start_so", "tick_so"]
  d__law_a_walk : DefOk T mg "_law_a_walk" (topS 55) 33 ["deck", "house_so", "many"]
  d__law_caught : DefOk T mg "_law_caught" (topS 56) 34 ["house_so", "start_so", "walk_so"]
  d__law_free : DefOk T mg "_law_free" (topS 57) 35 ["house_so", "walk_so"]
  d__law_shortest : DefOk T mg "_law_shortest" (topS 58) 36 ["house_so", "room_so", "goal_so", "most"]
  d__law_written : DefOk T mg "_law_written" (topS 59) 37 []
  d_law : DefOkL T mg base "law" (topS 60) 38 ["script"]
  n_all : mg "all" = none
  n_any : mg "any" = none
  n_bool : mg "bool" = none
  n_enumerate : mg "enumerate" = none
  n_int : mg "int" = none
  n_isinstance : mg "isinstance" = none
  n_len : mg "len" = none
  n_list : mg "list" = none
  n_max : mg "max" = none
  n_min : mg "min" = none
  n_range : mg "range" = none
  n_sorted : mg "sorted" = none
  n_str : mg "str" = none
  n_tuple : mg "tuple" = none
  n_zip : mg "zip" = none
  x_InvalidHouse : XcOk T mg 0 "InvalidHouse"
  x_InvalidRoom : XcOk T mg 3 "InvalidRoom"
  x_InvalidWalk : XcOk T mg 4 "InvalidWalk"
  x_InvalidNumber : XcOk T mg 9 "InvalidNumber"
  tryx : ∃ cT cM cP : Addr, mg "InvalidText" = some (.ref cT) ∧ mg "TooMany" = some (.ref cM) ∧ mg "PatrolError" = some (.ref cP) ∧ ∀ k D, k < 15 → T.ca k = some D → PySem.W.exmOne T.K (.ref D) (.ref cT) = some false ∧ PySem.W.exmOne T.K (.ref D) (.ref cM) = some false ∧ PySem.W.exmOne T.K (.ref D) (.ref cP) = some true ∧ KinC T mg kinN D (btK k)
section
variable {T : Tb} {mg : Str → Option Value} {base : Heap}
abbrev s_is_within : Stmt := topS 20
abbrev N_is_within : List Str := ["value", "low", "high"]
theorem sc_is_within : FnScope N_is_within ["value", "low", "high"] (defScope s_is_within) := ⟨rfl, rfl, rfl, by decide +kernel, rfl, by decide +kernel, by decide +kernel⟩
theorem w_is_within (G : Gs T mg base) : FnD T mg base 1 0 "is_within" ["value", "low", "high"] g_is_within := by
  refine fnD_by G.d_is_within sc_is_within rfl fun q a cdv A outer s H E e hr hu tk hp nd => ?_
  exact (s1 (sret (xand (xisi G.n_isinstance G.n_int xW) (xand (xnot (xisi G.n_isinstance G.n_bool xW)) (xand1 (xchain .LtE .LtE hu xW xW xW))))) s0)
abbrev s_has_items : Stmt := topS 21
abbrev N_has_items : List Str := ["value", "low", "high"]
theorem sc_has_items : FnScope N_has_items ["value", "low", "high"] (defScope s_has_items) := ⟨rfl, rfl, rfl, by decide +kernel, rfl, by decide +kernel, by decide +kernel⟩
theorem w_has_items (G : Gs T mg base) : FnD T mg base 1 1 "has_items" ["value", "low", "high"] g_has_items := by
  refine fnD_by G.d_has_items sc_has_items rfl fun q a cdv A outer s H E e hr hu tk hp nd => ?_
  exact (s1 (sret (xand (xisi G.n_isinstance G.n_tuple xW) (xand1 (xchain .LtE .LtE hu xW (L_ (xlen G.n_len (b1 xW b0))) xW)))) s0)
abbrev s_ascends : Stmt := topS 22
abbrev N_ascends : List Str := ["value", "one", "other"]
theorem sc_ascends : FnScope N_ascends ["value"] (defScope s_ascends) := ⟨rfl, rfl, rfl, by decide +kernel, rfl, by decide +kernel, by decide +kernel⟩
theorem w_ascends (G : Gs T mg base) : FnD T mg base 1 2 "ascends" ["value"] g_ascends := by
  refine fnD_by G.d_ascends sc_ascends rfl fun q a cdv A outer s H E e hr hu tk hp nd => ?_
  exact (s1 (sret (xall G.n_all (b1 (L_ (xf (comp_ nd (blkOk_by (own := [("one", 1), ("other", 2)]) (N := N_ascends) (sc := (defScope s_ascends)) (by decide +kernel)) (izip G.n_zip (a1 xV (a1 (xsl xW (o1 xI) o0) a0))) (fun _ _ _ _ _ => (gT (g1 (gN nd) (g1 (gN nd) g0)) (pg_tup rfl (g1 (gN nd) (g1 (gN nd) g0))))) (fun _ _ _ _ _ => ts0) (fun _ _ _ _ _ => (xcmp .Lt hu xW xW))))) b0))) s0)
abbrev s_are_doors : Stmt := topS 23
abbrev N_are_doors : List Str := ["value", "rooms", "door", "room"]
theorem sc_are_doors : FnScope N_are_doors ["value", "rooms"] (defScope s_are_doors) := ⟨rfl, rfl, rfl, by decide +kernel, rfl, by decide +kernel, by decide +kernel⟩
theorem w_are_doors (G : Gs T mg base) : FnD T mg base 2 3 "are_doors" ["value", "rooms"] g_are_doors := by
  refine fnD_by G.d_are_doors sc_are_doors rfl fun q a cdv A outer s H E e hr hu tk hp nd => ?_
  exact (s1 (sif (tnot (tval (xcall tk (hr.mono (by decide)) (w_has_items G) (a1 xV (a1 xI (a1 xI a0)))))) (s1 (sret xB) s0) s0) (s1 (sfor hp (iseq xV) (gN nd) (s1 (sif (PW.pt (tor (tnot (tval (xcall tk (hr.mono (by decide)) (w_has_items G) (a1 xV (a1 xI (a1 xI a0)))))) (tor1 (tnot (tval (xall G.n_all (b1 (L_ (xf (comp_ nd (blkOk_by (own := [("room", 3)]) (N := N_are_doors) (sc := (defScope s_are_doors)) (by decide +kernel)) (iseq xV) (fun _ _ _ _ _ => (gN nd)) (fun _ _ _ _ _ => ts0) (fun _ _ _ _ _ => (xcall takesN0 (hr.mono (by decide)) (w_is_within G) (a1 xV (a1 xI (a1 (xsub xW (L_ xI)) a0)))))))) b0))))))) (s1 (sret xB) s0) s0) (s1 (sif (tcmp .GtE hu (L_ (xix hu xW (L_ xI))) (L_ (xix hu xW (L_ xI)))) (s1 (sret xB) s0) s0) s0))) (s1 (sret (xcall tk (hr.mono (by decide)) (w_ascends G) (a1 xV a0))) s0)))
abbrev s_is_near : Stmt := topS 24
abbrev N_is_near : List Str := ["doors", "one", "other"]
theorem sc_is_near : FnScope N_is_near ["doors", "one", "other"] (defScope s_is_near) := ⟨rfl, rfl, rfl, by decide +kernel, rfl, by decide +kernel, by decide +kernel⟩
theorem w_is_near (G : Gs T mg base) : FnD T mg base 1 4 "is_near" ["doors", "one", "other"] g_is_near := by
  refine fnD_by G.d_is_near sc_is_near rfl fun q a cdv A outer s H E e hr hu tk hp nd => ?_
  exact (s1 (sret (xor (xcmp .Eq hu xW xW) (xand1 (xcmp .In hu (L_ (xTup (a1 (xmin2 G.n_min (b1 xW (b1 xW b0))) (a1 (xmax2 G.n_max (b1 xW (b1 xW b0))) a0)))) xW)))) s0)
abbrev s_is_row : Stmt := topS 25
abbrev N_is_row : List Str := ["value", "rooms", "doors", "most", "room", "one", "other"]
theorem sc_is_row : FnScope N_is_row ["value", "rooms", "doors", "most"] (defScope s_is_row) := ⟨rfl, rfl, rfl, by decide +kernel, rfl, by decide +kernel, by decide +kernel⟩
theorem w_is_row (G : Gs T mg base) : FnD T mg base 2 5 "is_row" ["value", "rooms", "doors", "most"] g_is_row := by
  refine fnD_by G.d_is_row sc_is_row rfl fun q a cdv A outer s H E e hr hu tk hp nd => ?_
  exact (s1 (sif (PW.pt (tor (tnot (tval (xcall tk (hr.mono (by decide)) (w_has_items G) (a1 xV (a1 xI (a1 xV a0)))))) (tor1 (tnot (tval (xall G.n_all (b1 (L_ (xf (comp_ nd (blkOk_by (own := [("room", 4)]) (N := N_is_row) (sc := (defScope s_is_row)) (by decide +kernel)) (iseq xV) (fun _ _ _ _ _ => (gN nd)) (fun _ _ _ _ _ => ts0) (fun _ _ _ _ _ => (xcall takesN0 (hr.mono (by decide)) (w_is_within G) (a1 xV (a1 xI (a1 (xsub xW (L_ xI)) a0)))))))) b0))))))) (s1 (sret xB) s0) s0) (s1 (sret (xall G.n_all (b1 (L_ (xf (comp_ nd (blkOk_by (own := [("one", 5), ("other", 6)]) (N := N_is_row) (sc := (defScope s_is_row)) (by decide +kernel)) (izip G.n_zip (a1 xV (a1 (xsl xW (o1 xI) o0) a0))) (fun _ _ _ _ _ => (gT (g1 (gN nd) (g1 (gN nd) g0)) (pg_tup rfl (g1 (gN nd) (g1 (gN nd) g0))))) (fun _ _ _ _ _ => ts0) (fun _ _ _ _ _ => (xcall takesN0 (hr.mono (by decide)) (w_is_near G) (a1 xV (a1 xV (a1 xV a0)))))))) b0))) s0))
abbrev s_product_of : Stmt := topS 26
abbrev N_product_of : List Str := ["rounds", "found", "row"]
theorem sc_product_of : FnScope N_product_of ["rounds"] (defScope s_product_of) := ⟨rfl, rfl, rfl, by decide +kernel, rfl, by decide +kernel, by decide +kernel⟩
theorem w_product_of (G : Gs T mg base) : FnD T mg base 1 6 "product_of" ["rounds"] g_product_of := by
  refine fnD_by G.d_product_of sc_product_of rfl fun q a cdv A outer s H E e hr hu tk hp nd => ?_
  exact (s1 (sset nd xI) (s1 (sfor hp (iseq xV) (gN nd) (s1 (sset nd (xmul xW (L_ (xlen G.n_len (b1 xW b0))))) s0)) (s1 (sret xV) s0)))
abbrev s_is_house_value : Stmt := topS 27
abbrev N_is_house_value : List Str := ["value", "rooms", "doors", "rounds", "row"]
theorem sc_is_house_value : FnScope N_is_house_value ["value"] (defScope s_is_house_value) := ⟨rfl, rfl, rfl, by decide +kernel, rfl, by decide +kernel, by decide +kernel⟩
theorem w_is_house_value (G : Gs T mg base) : FnD T mg base 3 7 "is_house_value" ["value"] g_is_house_value := by
  refine fnD_by G.d_is_house_value sc_is_house_value rfl fun q a cdv A outer s H E e hr hu tk hp nd => ?_
  exact (s1 (sif (PW.pt (tor (tnot (tval (xcall tk (hr.mono (by decide)) (w_has_items G) (a1 xV (a1 xI (a1 xI a0)))))) (tor (tnot (tval (xcall tk (hr.mono (by decide)) (w_is_within G) (a1 (xix hu xW (L_ xI)) (a1 xI (a1 xI a0)))))) (tor1 (tnot (tval (xcall tk (hr.mono (by decide)) (w_are_doors G) (a1 (xix hu xW (L_ xI)) (a1 (xix hu xW (L_ xI)) a0))))))))) (s1 (sret xB) s0) s0) (s1 (sasg xV (gT (g1 (gN nd) (g1 (gN nd) (g1 (gN nd) g0))) (pg_tup rfl (g1 (gN nd) (g1 (gN nd) (g1 (gN nd) g0)))))) (s1 (sif (PW.pt (tor (tnot (tval (xcall tk (hr.mono (by decide)) (w_has_items G) (a1 xV (a1 xI (a1 xI a0)))))) (tor1 (tnot (tval (xall G.n_all (b1 (L_ (xf (comp_ nd (blkOk_by (own := [("row", 4)]) (N := N_is_house_value) (sc := (defScope s_is_house_value)) (by decide +kernel)) (iseq xV) (fun _ _ _ _ _ => (gN nd)) (fun _ _ _ _ _ => ts0) (fun _ _ _ _ _ => (xcall takesN0 (hr.mono (by decide)) (w_is_row G) (a1 xV (a1 xV (a1 xV (a1 xI a0))))))))) b0))))))) (s1 (sret xB) s0) s0) (s1 (sret (xand (xall G.n_all (b1 (L_ (xf (comp_ nd (blkOk_by (own := [("row", 4)]) (N := N_is_house_value) (sc := (defScope s_is_house_value)) (by decide +kernel)) (iseq xV) (fun _ _ _ _ _ => (gN nd)) (fun _ _ _ _ _ => ts0) (fun _ _ _ _ _ => (xcall takesN0 (hr.mono (by decide)) (w_is_near G) (a1 xV (a1 (xix hu xW (L_ (xneg xI))) (a1 (xix hu xW (L_ xI)) a0)))))))) b0)) (xand1 (xcmp .LtE hu (L_ (xcall tk (hr.mono (by decide)) (w_product_of G) (a1 xV a0))) (L_ xI))))) s0))))
abbrev s_need_house : Stmt := topS 28
abbrev N_need_house : List Str := ["value"]
theorem sc_need_house : FnScope N_need_house ["value"] (defScope s_need_house) := ⟨rfl, rfl, rfl, by decide +kernel, rfl, by decide +kernel, by decide +kernel⟩
theorem w_need_house (G : Gs T mg base) : FnD T mg base 4 8 "need_house" ["value"] g_need_house := by
  refine fnD_by G.d_need_house sc_need_house rfl fun q a cdv A outer s H E e hr hu tk hp nd => ?_
  exact (s1 (sif (tnot (tval (xcall tk (hr.mono (by decide)) (w_is_house_value G) (a1 xV a0)))) (s1 (srai G.x_InvalidHouse tk) s0) s0) s0)
abbrev s_need_room : Stmt := topS 29
abbrev N_need_room : List Str := ["house", "value"]
theorem sc_need_room : FnScope N_need_room ["house", "value"] (defScope s_need_room) := ⟨rfl, rfl, rfl, by decide +kernel, rfl, by decide +kernel, by decide +kernel⟩
theorem w_need_room (G : Gs T mg base) : FnD T mg base 2 9 "need_room" ["house", "value"] g_need_room := by
  refine fnD_by G.d_need_room sc_need_room rfl fun q a cdv A outer s H E e hr hu tk hp nd => ?_
  exact (s1 (sif (tnot (tval (xcall tk (hr.mono (by decide)) (w_is_within G) (a1 xV (a1 xI (a1 (xsub (L_ (xix hu xW (L_ xI))) (L_ xI)) a0)))))) (s1 (srai G.x_InvalidRoom tk) s0) s0) s0)
abbrev s_need_walk : Stmt := topS 30
abbrev N_need_walk : List Str := ["house", "value"]
theorem sc_need_walk : FnScope N_need_walk ["house", "value"] (defScope s_need_walk) := ⟨rfl, rfl, rfl, by decide +kernel, rfl, by decide +kernel, by decide +kernel⟩
theorem w_need_walk (G : Gs T mg base) : FnD T mg base 3 10 "need_walk" ["house", "value"] g_need_walk := by
  refine fnD_by G.d_need_walk sc_need_walk rfl fun q a cdv A outer s H E e hr hu tk hp nd => ?_
  exact (s1 (sif (tnot (tval (xcall tk (hr.mono (by decide)) (w_is_row G) (a1 xV (a1 (xix hu xW (L_ xI)) (a1 (xix hu xW (L_ xI)) (a1 xI a0))))))) (s1 (srai G.x_InvalidWalk tk) s0) s0) s0)
abbrev s_all_beginnings : Stmt := topS 31
abbrev N_all_beginnings : List Str := ["house", "found", "row", "some", "number"]
theorem sc_all_beginnings : FnScope N_all_beginnings ["house"] (defScope s_all_beginnings) := ⟨rfl, rfl, rfl, by decide +kernel, rfl, by decide +kernel, by decide +kernel⟩
theorem w_all_beginnings (G : Gs T mg base) : FnD T mg base 1 11 "all_beginnings" ["house"] g_all_beginnings := by
  refine fnD_by G.d_all_beginnings sc_all_beginnings rfl fun q a cdv A outer s H E e hr hu tk hp nd => ?_
  exact (s1 (sset nd (xLst (a1 (xTup a0) a0))) (s1 (sfor hp (iseq (xix hu xW (L_ xI))) (gN nd) (s1 (setc2_ [4] nd (sw_true rfl rfl rfl (by decide +kernel)) (blkOk_by (own := [("some", 3), ("number", 4)]) (N := N_all_beginnings) (sc := (defScope s_all_beginnings)) (by decide +kernel)) (iseq xV) (fun _ _ _ _ _ => (gN nd)) (fun _ _ _ _ _ => ts0) (fun _ _ _ _ _ => (irng1 G.n_range (a1 (xlen G.n_len (b1 xW b0)) a0))) (fun _ _ _ _ _ => (gN nd)) (fun _ _ _ _ _ => ts0) (fun _ _ _ _ _ => (xadd xW (L_ (xTup (a1 xV a0)))))) s0)) (s1 (sret xV) s0)))
abbrev s_rooms_at : Stmt := topS 32
abbrev N_rooms_at : List Str := ["house", "beginning", "tick", "begin", "row"]
theorem sc_rooms_at : FnScope N_rooms_at ["house", "beginning", "tick"] (defScope s_rooms_at) := ⟨rfl, rfl, rfl, by decide +kernel, rfl, by decide +kernel, by decide +kernel⟩
theorem w_rooms_at (G : Gs T mg base) : FnD T mg base 1 12 "rooms_at" ["house", "beginning", "tick"] g_rooms_at := by
  refine fnD_by G.d_rooms_at sc_rooms_at rfl fun q a cdv A outer s H E e hr hu tk hp nd => ?_
  exact (s1 (sret (xtuple G.n_tuple (b1 (L_ (xf (comp_ nd (blkOk_by (own := [("begin", 3), ("row", 4)]) (N := N_rooms_at) (sc := (defScope s_rooms_at)) (by decide +kernel)) (izip G.n_zip (a1 xV (a1 (xix hu xW (L_ xI)) a0))) (fun _ _ _ _ _ => (gT (g1 (gN nd) (g1 (gN nd) g0)) (pg_tup rfl (g1 (gN nd) (g1 (gN nd) g0))))) (fun _ _ _ _ _ => ts0) (fun _ _ _ _ _ => (xix hu xW (L_ (xmod (L_ (xadd xW xW)) (L_ (xlen G.n_len (b1 xW b0)))))))))) b0))) s0)
abbrev s_is_met : Stmt := topS 34
abbrev N_is_met : List Str := ["house", "beginning", "tick", "before", "here", "rooms"]
theorem sc_is_met : FnScope N_is_met ["house", "beginning", "tick", "before", "here"] (defScope s_is_met) := ⟨rfl, rfl, rfl, by decide +kernel, rfl, by decide +kernel, by decide +kernel⟩
theorem w_is_met (G : Gs T mg base) : FnD T mg base 2 13 "is_met" ["house", "beginning", "tick", "before", "here"] g_is_met := by
  refine fnD_by G.d_is_met sc_is_met rfl fun q a cdv A outer s H E e hr hu tk hp nd => ?_
  exact (s1 (sset nd (xcall tk (hr.mono (by decide)) (w_rooms_at G) (a1 xV (a1 xV (a1 xV a0))))) (s1 (sif (tcmp .In hu xW xW) (s1 (sret xB) s0) s0) (s1 (sif (PW.pt (tor (tcmp .Is hu xW (L_ xN)) (tor1 (tcmp .Eq hu xW xW)))) (s1 (sret xB) s0) s0) (s1 (sret (xcmp .In hu (L_ (xTup (a1 xV (a1 xV a0)))) (L_ (xzipl G.n_list G.n_zip (a1 (xcall tk (hr.mono (by decide)) (w_rooms_at G) (a1 xV (a1 xV (a1 (xsub xW (L_ xI)) a0)))) (a1 xV a0)))))) s0))))
abbrev s_first_met : Stmt := topS 35
abbrev N_first_met : List Str := ["house", "beginning", "walk", "tick", "here"]
theorem sc_first_met : FnScope N_first_met ["house", "beginning", "walk"] (defScope s_first_met) := ⟨rfl, rfl, rfl, by decide +kernel, rfl, by decide +kernel, by decide +kernel⟩
theorem w_first_met (G : Gs T mg base) : FnD T mg base 3 14 "first_met" ["house", "beginning", "walk"] g_first_met := by
  refine fnD_by G.d_first_met sc_first_met rfl fun q a cdv A outer s H E e hr hu tk hp nd => ?_
  exact (s1 (sfor hp (ienum G.n_enumerate (a1 xV a0)) (gT (g1 (gN nd) (g1 (gN nd) g0)) (pg_tup rfl (g1 (gN nd) (g1 (gN nd) g0)))) (s1 (sif (tval (xcall tk (hr.mono (by decide)) (w_is_met G) (a1 xV (a1 xV (a1 xV (a1 (xite (tcmp .Gt hu xW (L_ xI)) (xix hu xW (L_ (xsub xW (L_ xI)))) xN) (a1 xV a0))))))) (s1 (sret xV) s0) s0) s0)) (s1 (sret xN) s0))
abbrev s_free_ones : Stmt := topS 36
abbrev N_free_ones : List Str := ["house", "room", "one"]
theorem sc_free_ones : FnScope N_free_ones ["house", "room"] (defScope s_free_ones) := ⟨rfl, rfl, rfl, by decide +kernel, rfl, by decide +kernel, by decide +kernel⟩
theorem w_free_ones (G : Gs T mg base) : FnD T mg base 2 15 "free_ones" ["house", "room"] g_free_ones := by
  refine fnD_by G.d_free_ones sc_free_ones rfl fun q a cdv A outer s H E e hr hu tk hp nd => ?_
  exact (s1 (sret (xf (comp_ nd (blkOk_by (own := [("one", 2)]) (N := N_free_ones) (sc := (defScope s_free_ones)) (by decide +kernel)) (iseq (xcall tk (hr.mono (by decide)) (w_all_beginnings G) (a1 xV a0))) (fun _ _ _ _ _ => (gN nd)) (fun _ _ _ _ _ => (ts1 (tcmp .NotIn hu xW (L_ (xcall takesN0 (hr.mono (by decide)) (w_rooms_at G) (a1 xV (a1 xV (a1 xI a0)))))))) (fun _ _ _ _ _ => xV)))) s0)
abbrev s_is_unmet : Stmt := topS 37
abbrev N_is_unmet : List Str := ["house", "walk", "one"]
theorem sc_is_unmet : FnScope N_is_unmet ["house", "walk"] (defScope s_is_unmet) := ⟨rfl, rfl, rfl, by decide +kernel, rfl, by decide +kernel, by decide +kernel⟩
theorem w_is_unmet (G : Gs T mg base) : FnD T mg base 4 16 "is_unmet" ["house", "walk"] g_is_unmet := by
  refine fnD_by G.d_is_unmet sc_is_unmet rfl fun q a cdv A outer s H E e hr hu tk hp nd => ?_
  exact (s1 (sret (xall G.n_all (b1 (L_ (xf (comp_ nd (blkOk_by (own := [("one", 2)]) (N := N_is_unmet) (sc := (defScope s_is_unmet)) (by decide +kernel)) (iseq (xcall tk (hr.mono (by decide)) (w_free_ones G) (a1 xV (a1 (xix hu xW (L_ xI)) a0)))) (fun _ _ _ _ _ => (gN nd)) (fun _ _ _ _ _ => ts0) (fun _ _ _ _ _ => (xcmp .Is hu (L_ (xcall takesN0 (hr.mono (by decide)) (w_first_met G) (a1 xV (a1 xV (a1 xV a0))))) (L_ xN)))))) b0))) s0)
abbrev s_surely_unmet : Stmt := topS 38
abbrev N_surely_unmet : List Str := ["house", "walk"]
theorem sc_surely_unmet : FnScope N_surely_unmet ["house", "walk"] (defScope s_surely_unmet) := ⟨rfl, rfl, rfl, by decide +kernel, rfl, by decide +kernel, by decide +kernel⟩
theorem w_surely_unmet (G : Gs T mg base) : FnD T mg base 5 17 "surely_unmet" ["house", "walk"] g_surely_unmet := by
  refine fnD_by G.d_surely_unmet sc_surely_unmet rfl fun q a cdv A outer s H E e hr hu tk hp nd => ?_
  exact (s1 (sexpr (xcall tk (hr.mono (by decide)) (w_need_house G) (a1 xV a0))) (s1 (sexpr (xcall tk (hr.mono (by decide)) (w_need_walk G) (a1 xV (a1 xV a0)))) (s1 (sret (xcall tk (hr.mono (by decide)) (w_is_unmet G) (a1 xV (a1 xV a0)))) s0)))
abbrev s_longer_rows : Stmt := topS 40
abbrev N_longer_rows : List Str := ["house", "some", "rows", "tick", "found", "row", "here", "one"]
theorem sc_longer_rows : FnScope N_longer_rows ["house", "some", "rows", "tick"] (defScope s_longer_rows) := ⟨rfl, rfl, rfl, by decide +kernel, rfl, by decide +kernel, by decide +kernel⟩
theorem w_longer_rows (G : Gs T mg base) : FnD T mg base 3 19 "longer_rows" ["house", "some", "rows", "tick"] g_longer_rows := by
  refine fnD_by G.d_longer_rows sc_longer_rows rfl fun q a cdv A outer s H E e hr hu tk hp nd => ?_
  exact (s1 (sdic false nd) (s1 (sfor hp (iseq (xsorted hu G.n_sorted (b1 xW b0))) (gN nd) (s1 (sfor hp (irng1 G.n_range (a1 (xix hu xW (L_ xI)) a0)) (gN nd) (s1 (sif (PW.pt (tand (tcmp .NotIn hu xW xW) (tand1 (tval (xcall tk (hr.mono (by decide)) (w_is_near G) (a1 (xix hu xW (L_ xI)) (a1 (xix hu xW (L_ (xneg xI))) (a1 xV a0)))))))) (s1 (sif (tnot (tval (xany G.n_any (b1 (L_ (xf (comp_ nd (blkOk_by (own := [("one", 7)]) (N := N_longer_rows) (sc := (defScope s_longer_rows)) (by decide +kernel)) (iseq xV) (fun _ _ _ _ _ => (gN nd)) (fun _ _ _ _ _ => ts0) (fun _ _ _ _ _ => (xcall takesN0 (hr.mono (by decide)) (w_is_met G) (a1 xV (a1 xV (a1 xV (a1 (xix hu xW (L_ (xneg xI))) (a1 xV a0)))))))))) b0)))) (s1 (sdput hu (by exact ⟨rfl, rfl, rfl⟩) (xadd xW (L_ (xTup (a1 xV a0)))) xW (fun h1 h2 h3 => ps_asg h3 (pg_sub h1 h2 (set_dic hu (by exact ⟨rfl, rfl, rfl⟩))))) s0) s0) s0) s0) s0)) s0)) (s1 (sfrz 4 (sret (xlistvals G.n_list xV))) s0)))
abbrev s_safe_walk : Stmt := topS 39
abbrev N_safe_walk : List Str := ["house", "room", "goal", "most", "some", "rows", "tick", "ends", "row"]
theorem sc_safe_walk : FnScope N_safe_walk ["house", "room", "goal", "most"] (defScope s_safe_walk) := ⟨rfl, rfl, rfl, by decide +kernel, rfl, by decide +kernel, by decide +kernel⟩
theorem w_safe_walk (G : Gs T mg base) : FnD T mg base 5 18 "safe_walk" ["house", "room", "goal", "most"] g_safe_walk := by
  refine fnD_by G.d_safe_walk sc_safe_walk rfl fun q a cdv A outer s H E e hr hu tk hp nd => ?_
  exact (s1 (sexpr (xcall tk (hr.mono (by decide)) (w_need_house G) (a1 xV a0))) (s1 (sexpr (xcall tk (hr.mono (by decide)) (w_need_room G) (a1 xV (a1 xV a0)))) (s1 (sexpr (xcall tk (hr.mono (by decide)) (w_need_room G) (a1 xV (a1 xV a0)))) (s1 (sif (tnot (tval (xcall tk (hr.mono (by decide)) (w_is_within G) (a1 xV (a1 xI (a1 xI a0)))))) (s1 (srai G.x_InvalidNumber tk) s0) s0) (s1 (sset nd (xcall tk (hr.mono (by decide)) (w_free_ones G) (a1 xV (a1 xV a0)))) (s1 (sset nd (xLst (a1 (xTup (a1 xV a0)) a0))) (s1 (sfor hp (irng1 G.n_range (a1 (xadd xW (L_ xI)) a0)) (gN nd) (s1 (setc_ nd (sw_true rfl rfl rfl (by decide +kernel)) (blkOk_by (own := [("row", 8)]) (N := N_safe_walk) (sc := (defScope s_safe_walk)) (by decide +kernel)) (iseq xV) (fun _ _ _ _ _ => (gN nd)) (fun _ _ _ _ _ => (ts1 (tcmp .Eq hu (L_ (xix hu xW (L_ (xneg xI)))) xW))) (fun _ _ _ _ _ => xV)) (s1 (sif (tcmp .NotEq hu xW (L_ (xLst a0))) (s1 (sret (xmin1 hu G.n_min (b1 xW b0))) s0) s0) (s1 (sset nd (xcall tk (hr.mono (by decide)) (w_longer_rows G) (a1 xV (a1 xV (a1 xV (a1 (xadd xW (L_ xI)) a0)))))) s0)))) (s1 (sret xN) s0))))))))
abbrev s__law_deck : Stmt := topS 42
abbrev N__law_deck : List Str := ["cell", "turn"]
theorem sc__law_deck : FnScope N__law_deck ["cell", "turn"] (defScope s__law_deck) := ⟨rfl, rfl, rfl, by decide +kernel, rfl, by decide +kernel, by decide +kernel⟩
theorem w__law_deck (G : Gs T mg base) : FnD T mg base 1 20 "_law_deck" ["cell", "turn"] g__law_deck := by
  refine fnD_by G.d__law_deck sc__law_deck rfl fun q a cdv A outer s H E e hr hu tk hp nd => ?_
  exact (s1 (sif (tcmp .GtE hu xW (L_ (xpow (L_ xI) (L_ xI)))) (s1 (sloc (flst (a1 (xsub xW (L_ (xpow (L_ xI) (L_ xI)))) (a1 (xmod xW (L_ xI)) (a1 xV a0))))) s0) s0) (s1 (sloc (flst (a1 xI (a1 (xmod xW (L_ xI)) (a1 xV a0))))) s0))
abbrev s__law_pick : Stmt := topS 43
abbrev N__law_pick : List Str := ["deck", "size", "found", "number"]
theorem sc__law_pick : FnScope N__law_pick ["deck", "size"] (defScope s__law_pick) := ⟨rfl, rfl, rfl, by decide +kernel, rfl, by decide +kernel, by decide +kernel⟩
theorem w__law_pick (G : Gs T mg base) : FnD T mg base 1 21 "_law_pick" ["deck", "size"] g__law_pick := by
  refine fnD_by G.d__law_pick sc__law_pick rfl fun q a cdv A outer s H E e hr hu tk hp nd => ?_
  exact (s1 (sif (tcmp .Gt hu (L_ (xix hu xW (L_ xI))) (L_ xI)) (s1 (sset nd (xmod (L_ (xint G.n_int (b1 (L_ (xix hu xW (L_ xI))) b0))) xW)) (s1 (slput (xfdiv (L_ (xix hu xW (L_ xI))) xW) xI (fun h1 h2 h3 => ps_asg h3 (pg_sub h1 h2 set_list))) (s1 (sret xV) s0))) s0) (s1 (slput (xadd (L_ (xix hu xW (L_ xI))) (L_ xI)) xI (fun h1 h2 h3 => ps_asg h3 (pg_sub h1 h2 set_list))) (s1 (sset nd (xmod (L_ (xpow (L_ (xadd (L_ (xix hu xW (L_ xI))) (L_ (xmul (L_ xI) (L_ (xix hu xW (L_ xI))))))) (L_ xI))) (L_ xI))) (s1 (sset nd (xfdiv (L_ (xmod (L_ (xpow (L_ (xadd xW (L_ (xmul (L_ xI) (L_ (xix hu xW (L_ xI))))))) (L_ xI))) (L_ xI))) (L_ xI))) (s1 (sret (xmod (L_ (xint G.n_int (b1 xW b0))) xW)) s0)))))
abbrev s__law_one : Stmt := topS 44
abbrev N__law_one : List Str := ["deck", "some"]
theorem sc__law_one : FnScope N__law_one ["deck", "some"] (defScope s__law_one) := ⟨rfl, rfl, rfl, by decide +kernel, rfl, by decide +kernel, by decide +kernel⟩
theorem w__law_one (G : Gs T mg base) : FnD T mg base 2 22 "_law_one" ["deck", "some"] g__law_one := by
  refine fnD_by G.d__law_one sc__law_one rfl fun q a cdv A outer s H E e hr hu tk hp nd => ?_
  exact (s1 (sret (xix hu xW (L_ (xcall tk (hr.mono (by decide)) (w__law_pick G) (a1 xV (a1 (xlen G.n_len (b1 xW b0)) a0)))))) s0)
abbrev s__law_sort : Stmt := topS 45
abbrev N__law_sort : List Str := ["thing"]
theorem sc__law_sort : FnScope N__law_sort ["thing"] (defScope s__law_sort) := ⟨rfl, rfl, rfl, by decide +kernel, rfl, by decide +kernel, by decide +kernel⟩
theorem w__law_sort (G : Gs T mg base) : FnD T mg base 1 23 "_law_sort" ["thing"] g__law_sort := by
  refine fnD_by G.d__law_sort sc__law_sort rfl fun q a cdv A outer s H E e hr hu tk hp nd => ?_
  exact (s1 (sif (tval (xisi G.n_isinstance G.n_bool xW)) (s1 (sret xI) s0) s0) (s1 (sif (tval (xisi G.n_isinstance G.n_int xW)) (s1 (sret xI) s0) s0) (s1 (sif (tval (xisi G.n_isinstance G.n_str xW)) (s1 (sret xI) s0) s0) (s1 (sif (tval (xisi G.n_isinstance G.n_list xW)) (s1 (sret xI) s0) s0) (s1 (sret (xite (tval (xisi G.n_isinstance G.n_tuple xW)) xI xI)) s0)))))
abbrev s__law_same : Stmt := topS 46
abbrev N__law_same : List Str := ["told", "due", "k", "part"]
theorem sc__law_same : FnScope N__law_same ["told", "due"] (defScope s__law_same) := ⟨rfl, rfl, rfl, by decide +kernel, rfl, by decide +kernel, by decide +kernel⟩
theorem w__law_same (G : Gs T mg base) : ∀ n, FnD T mg base (2 + n) 24 "_law_same" ["told", "due"] (g__law_same n)
  | 0 => fnD_bad G.d__law_same sc__law_same
  | n + 1 => by
    have ih : FnD T mg base (2 + n) 24 "_law_same" ["told", "due"] (g__law_same n) := w__law_same G n
    refine fnD_by (k := 2 + n) G.d__law_same sc__law_same rfl fun q a cdv A outer s H E e hr hu tk hp nd => ?_
    exact (s1 (sif (tcmp .NotEq hu (L_ (xcall tk (hr.mono (by omega)) (w__law_sort G) (a1 xV a0))) (L_ (xcall tk (hr.mono (by omega)) (w__law_sort G) (a1 xV a0)))) (s1 (sret xB) s0) s0) (s1 (sif (PW.pt (tand (tcmp .Gt hu (L_ (xcall tk (hr.mono (by omega)) (w__law_sort G) (a1 xV a0))) (L_ xI)) (tand1 (tcmp .Lt hu (L_ (xcall tk (hr.mono (by omega)) (w__law_sort G) (a1 xV a0))) (L_ xI))))) (s1 (sif (tcmp .NotEq hu (L_ (xlen G.n_len (b1 xW b0))) (L_ (xlen G.n_len (b1 xW b0)))) (s1 (sret xB) s0) s0) (s1 (sret (xcmp .Eq hu (L_ (xf (comp_ nd (blkOk_by (own := [("k", 2), ("part", 3)]) (N := N__law_same) (sc := (defScope s__law_same)) (by decide +kernel)) (ienum G.n_enumerate (a1 xV a0)) (fun _ _ _ _ _ => (gT (g1 (gN nd) (g1 (gN nd) g0)) (pg_tup rfl (g1 (gN nd) (g1 (gN nd) g0))))) (fun _ _ _ _ _ => (ts1 (tnot (tval (xcall takesN0 hr ih (a1 xV (a1 (xix hu xW xW) a0))))))) (fun _ _ _ _ _ => xV)))) (L_ (xLst a0)))) s0)) s0) (s1 (sret (xcmp .Eq hu xW xW)) s0)))
abbrev s__law_kin : Stmt := topS 47
abbrev N__law_kin : List Str := ["e", "sorts", "labels", "label", "good"]
theorem sc__law_kin : FnScope N__law_kin ["e"] (defScope s__law_kin) := ⟨rfl, rfl, rfl, by decide +kernel, rfl, by decide +kernel, by decide +kernel⟩
theorem w__law_kin (G : Gs T mg base) {D : Addr} {bt : Nat → Bool} (KC : KinC T mg kinN D bt) : FnK T mg base 1 D "_law_kin" (g__law_kin bt) := by
  refine kin_by G.d__law_kin sc__law_kin rfl (by decide) fun q a cdv A outer s H E p e hr hu hh hin hz hf nd => ?_
  exact (s1 (sset nd (xLst (a1 (xisk G.n_isinstance hin KC.exc hz hf (KC.nm 0 _ rfl)) (a1 (xisk G.n_isinstance hin KC.exc hz hf (KC.nm 1 _ rfl)) (a1 (xisk G.n_isinstance hin KC.exc hz hf (KC.nm 2 _ rfl)) a0))))) (s1 (sset nd (xadd xW (L_ (xLst (a1 (xisk G.n_isinstance hin KC.exc hz hf (KC.nm 3 _ rfl)) (a1 (xisk G.n_isinstance hin KC.exc hz hf (KC.nm 4 _ rfl)) (a1 (xisk G.n_isinstance hin KC.exc hz hf (KC.nm 5 _ rfl)) a0))))))) (s1 (sset nd (xadd xW (L_ (xLst (a1 (xisk G.n_isinstance hin KC.exc hz hf (KC.nm 6 _ rfl)) (a1 (xisk G.n_isinstance hin KC.exc hz hf (KC.nm 7 _ rfl)) (a1 (xisk G.n_isinstance hin KC.exc hz hf (KC.nm 8 _ rfl)) a0))))))) (s1 (sset nd (xadd xW (L_ (xLst (a1 (xisk G.n_isinstance hin KC.exc hz hf (KC.nm 9 _ rfl)) (a1 (xisk G.n_isinstance hin KC.exc hz hf (KC.nm 10 _ rfl)) (a1 (xisk G.n_isinstance hin KC.exc hz hf (KC.nm 11 _ rfl)) a0))))))) (s1 (sset nd (xadd xW (L_ (xLst (a1 (xisk G.n_isinstance hin KC.exc hz hf (KC.nm 12 _ rfl)) (a1 (xisk G.n_isinstance hin KC.exc hz hf (KC.nm 13 _ rfl)) (a1 (xisk G.n_isinstance hin KC.exc hz hf (KC.nm 14 _ rfl)) a0))))))) (s1 (sset nd (xadd xW (L_ (xLst (a1 (xisk G.n_isinstance hin KC.exc hz hf (KC.nm 15 _ rfl)) (a1 (xisk G.n_isinstance hin KC.exc hz hf (KC.nm 16 _ rfl)) (a1 (xisk G.n_isinstance hin KC.exc hz hf (KC.nm 17 _ rfl)) a0))))))) (s1 (sset nd xS) (s1 (sret (xjoin xS (xf (compH_ nd hh (blkOk_by (own := [("label", 3), ("good", 4)]) (N := N__law_kin) (sc := (defScope s__law_kin)) (by decide +kernel)) (izipH G.n_zip (a1 (xsplit xV xS) (a1 xV a0))) (fun _ _ _ _ _ hi => (gTH hi (g1 (gN nd) (g1 (gN nd) g0)))) (fun _ _ _ _ _ => (ts1 (tval xV))) (fun _ _ _ _ _ => xV))))) s0))))))))
abbrev s__law_try : Stmt := topS 48
theorem tryD (G : Gs T mg base) : TryD T mg base 1 labK := by
  refine ⟨⟨s__law_try, 26, G.d__law_try, ⟨rfl, rfl, rfl, by decide +kernel, rfl, by decide +kernel, by decide +kernel⟩, by decide +kernel, ⟨_, _, _, _, _, _, _, _, _, _, _, _, _, _, _, _, _, _, _, _, _, _, _, _, _, _, _, _, _, _, rfl⟩⟩, ⟨?_⟩⟩
  obtain ⟨cT, cM, cP, m1, m2, m3, h⟩ := G.tryx
  refine ⟨cT, cM, cP, m1, m2, m3, fun k D hk hD => ?_⟩
  obtain ⟨h1, h2, h3, KC⟩ := h k D hk hD
  exact ⟨h1, h2, h3, _, w__law_kin G KC, kin_lab k hk⟩
abbrev s__law_known : Stmt := topS 49
abbrev N__law_known : List Str := ["line", "ring", "one", "two"]
theorem sc__law_known : FnScope N__law_known [] (defScope s__law_known) := ⟨rfl, rfl, rfl, by decide +kernel, rfl, by decide +kernel, by decide +kernel⟩
theorem w__law_known (G : Gs T mg base) : FnD T mg base 1 27 "_law_known" [] g__law_known := by
  refine fnD_by G.d__law_known sc__law_known rfl fun q a cdv A outer s H E e hr hu tk hp nd => ?_
  exact (s1 (sasg (xTup (a1 (xTup (a1 (xTup (a1 xI (a1 xI a0))) (a1 (xTup (a1 xI (a1 xI a0))) a0))) (a1 (xTup (a1 (xTup (a1 xI (a1 xI a0))) (a1 (xTup (a1 xI (a1 xI a0))) (a1 (xTup (a1 xI (a1 xI a0))) a0)))) a0))) (gT (g1 (gN nd) (g1 (gN nd) g0)) (pg_tup rfl (g1 (gN nd) (g1 (gN nd) g0))))) (s1 (spar nd (a1 (xTup (a1 xI (a1 xV (a1 (xTup (a1 (xTup (a1 xI (a1 xI (a1 xI (a1 xI a0))))) a0)) a0)))) (a1 (xTup (a1 xI (a1 xV (a1 (xTup (a1 (xTup (a1 xI (a1 xI (a1 xI a0)))) a0)) a0)))) a0))) (s1 (sret (xTup (a1 xV (a1 xV (a1 (xTup (a1 xI (a1 (xTup (a1 (xTup (a1 xI (a1 xI a0))) a0)) (a1 (xTup (a1 (xTup (a1 xI (a1 xI (a1 xI a0)))) a0)) a0)))) (a1 (xTup (a1 xI (a1 xV (a1 (xTup (a1 (xTup (a1 xI (a1 xI (a1 xI a0)))) (a1 (xTup (a1 xI (a1 xI (a1 xI a0)))) a0))) a0)))) a0)))))) s0)))
abbrev s__law_by : Stmt := topS 50
abbrev N__law_by : List Str := ["house_so", "room_so", "found", "one", "other"]
theorem sc__law_by : FnScope N__law_by ["house_so", "room_so"] (defScope s__law_by) := ⟨rfl, rfl, rfl, by decide +kernel, rfl, by decide +kernel, by decide +kernel⟩
theorem w__law_by (G : Gs T mg base) : FnD T mg base 1 28 "_law_by" ["house_so", "room_so"] g__law_by := by
  refine fnD_by G.d__law_by sc__law_by rfl fun q a cdv A outer s H E e hr hu tk hp nd => ?_
  exact (s1 (setc_ nd (sw_true rfl rfl rfl (by decide +kernel)) (blkOk_by (own := [("one", 3), ("other", 4)]) (N := N__law_by) (sc := (defScope s__law_by)) (by decide +kernel)) (iseq (xix hu xW (L_ xI))) (fun _ _ _ _ _ => (gT (g1 (gN nd) (g1 (gN nd) g0)) (pg_tup rfl (g1 (gN nd) (g1 (gN nd) g0))))) (fun _ _ _ _ _ => (ts1 (tcmp .Eq hu xW xW))) (fun _ _ _ _ _ => xV)) (s1 (sret (xsorted hu G.n_sorted (b1 (L_ (xadd xW (L_ (xf (comp_ nd (blkOk_by (own := [("one", 3), ("other", 4)]) (N := N__law_by) (sc := (defScope s__law_by)) (by decide +kernel)) (iseq (xix hu xW (L_ xI))) (fun _ _ _ _ _ => (gT (g1 (gN nd) (g1 (gN nd) g0)) (pg_tup rfl (g1 (gN nd) (g1 (gN nd) g0))))) (fun _ _ _ _ _ => (ts1 (tcmp .Eq hu xW xW))) (fun _ _ _ _ _ => xV)))))) b0))) s0))
abbrev s__law_a_round : Stmt := topS 51
abbrev N__law_a_round : List Str := ["deck", "house_so", "most", "row", "turn"]
theorem sc__law_a_round : FnScope N__law_a_round ["deck", "house_so", "most"] (defScope s__law_a_round) := ⟨rfl, rfl, rfl, by decide +kernel, rfl, by decide +kernel, by decide +kernel⟩
theorem w__law_a_round (G : Gs T mg base) : FnD T mg base 3 29 "_law_a_round" ["deck", "house_so", "most"] g__law_a_round := by
  refine fnD_by G.d__law_a_round sc__law_a_round rfl fun q a cdv A outer s H E e hr hu tk hp nd => ?_
  exact (s1 (sown nd (flst (a1 (xcall tk (hr.mono (by decide)) (w__law_pick G) (a1 xV (a1 (xix hu xW (L_ xI)) a0))) a0))) (s1 (sfor hp (irng1 G.n_range (a1 (xcall tk (hr.mono (by decide)) (w__law_pick G) (a1 xV (a1 xV a0))) a0)) (gN nd) (s1 (sapp (xcall tk (hr.mono (by decide)) (w__law_one G) (a1 xV (a1 (xadd (L_ (xLst (a1 (xix hu xW (L_ (xneg xI))) a0))) (L_ (xmul (L_ (xcall tk (hr.mono (by decide)) (w__law_by G) (a1 xV (a1 (xix hu xW (L_ (xneg xI))) a0)))) (L_ xI)))) a0))) (fun h1 h2 => pe_bm PySem.F.plainAttrs_list PySem.F.slot_list_append PySem.F.type_list_append mt_append h1 h2)) s0)) (s1 (swhile fuel__law_a_round hp (PW.pt (tand (tcmp .NotEq hu (L_ (xix hu xW (L_ (xneg xI)))) (L_ (xix hu xW (L_ xI)))) (tand1 (tcmp .NotIn hu (L_ (xix hu xW (L_ (xneg xI)))) (L_ (xcall tk (hr.mono (by decide)) (w__law_by G) (a1 xV (a1 (xix hu xW (L_ xI)) a0)))))))) (s1 (sown nd (fsl xW o0 (o1 (xneg xI)))) s0)) (s1 (sret (xtuple G.n_tuple (b1 xW b0))) s0))))
abbrev s__law_a_house : Stmt := topS 52
abbrev N__law_a_house : List Str := ["deck", "most", "guards", "rooms_so", "every", "one", "bare", "rounds_so", "size", "turn", "row", "other"]
theorem sc__law_a_house : FnScope N__law_a_house ["deck", "most", "guards"] (defScope s__law_a_house) := ⟨rfl, rfl, rfl, by decide +kernel, rfl, by decide +kernel, by decide +kernel⟩
theorem w__law_a_house (G : Gs T mg base) : FnD T mg base 4 30 "_law_a_house" ["deck", "most", "guards"] g__law_a_house := by
  refine fnD_by G.d__law_a_house sc__law_a_house rfl fun q a cdv A outer s H E e hr hu tk hp nd => ?_
  exact (s1 (sset nd (xadd (L_ xI) (L_ (xcall tk (hr.mono (by decide)) (w__law_pick G) (a1 xV (a1 xI a0)))))) (s1 (setc_ nd (sw_true rfl rfl rfl (by decide +kernel)) (blkOk_by (own := [("one", 5)]) (N := N__law_a_house) (sc := (defScope s__law_a_house)) (by decide +kernel)) (irng1 G.n_range (a1 (xsub xW (L_ xI)) a0)) (fun _ _ _ _ _ => (gN nd)) (fun _ _ _ _ _ => ts0) (fun _ _ _ _ _ => (xTup (a1 xV (a1 (xadd xW (L_ xI)) a0))))) (s1 (sfor hp (irng1 G.n_range (a1 xV a0)) (gN nd) (s1 (sset nd (xadd xW (L_ (xf (comp_ nd (blkOk_by (own := [("other", 11)]) (N := N__law_a_house) (sc := (defScope s__law_a_house)) (by decide +kernel)) (irng2 G.n_range (a1 (xadd xW (L_ xI)) (a1 xV a0))) (fun _ _ _ _ _ => (gN nd)) (fun _ _ _ _ _ => (ts1 (tcmp .Eq hu (L_ (xcall takesN0 (hr.mono (by decide)) (w__law_pick G) (a1 xV (a1 xI a0)))) (L_ xI)))) (fun _ _ _ _ _ => (xTup (a1 xV (a1 xV a0))))))))) s0)) (s1 (sif (PW.pt (tand (tcmp .Gt hu xW (L_ xI)) (tand1 (tcmp .Eq hu (L_ (xcall tk (hr.mono (by decide)) (w__law_pick G) (a1 xV (a1 xI a0)))) (L_ xI))))) (s1 (sset nd (xsl xW (o1 xI) o0)) s0) s0) (s1 (sset nd (xTup (a1 xV (a1 (xtuple G.n_tuple (b1 (L_ (xsorted hu G.n_sorted (b1 xW b0))) b0)) a0)))) (s1 (spar nd (a1 (xTup (a1 (xcall tk (hr.mono (by decide)) (w__law_a_round G) (a1 xV (a1 xV (a1 xV a0)))) a0)) (a1 xI a0))) (s1 (sfor hp (irng1 G.n_range (a1 (xcall tk (hr.mono (by decide)) (w__law_pick G) (a1 xV (a1 xV a0))) a0)) (gN nd) (s1 (sset nd (xcall tk (hr.mono (by decide)) (w__law_a_round G) (a1 xV (a1 xV (a1 xV a0))))) (s1 (sset nd (xmul xW (L_ (xlen G.n_len (b1 (L_ (xix hu xW (L_ (xneg xI)))) b0))))) (s1 (sif (tcmp .LtE hu (L_ (xmul xW (L_ (xlen G.n_len (b1 xW b0))))) (L_ xI)) (s1 (sset nd (xadd xW (L_ (xTup (a1 xV a0))))) s0) s0) s0)))) (s1 (sret (xadd xW (L_ (xTup (a1 xV a0))))) s0))))))))
abbrev s__law_starts : Stmt := topS 53
abbrev N__law_starts : List Str := ["house_so", "found", "row", "longer", "some", "at"]
theorem sc__law_starts : FnScope N__law_starts ["house_so"] (defScope s__law_starts) := ⟨rfl, rfl, rfl, by decide +kernel, rfl, by decide +kernel, by decide +kernel⟩
theorem w__law_starts (G : Gs T mg base) : FnD T mg base 1 31 "_law_starts" ["house_so"] g__law_starts := by
  refine fnD_by G.d__law_starts sc__law_starts rfl fun q a cdv A outer s H E e hr hu tk hp nd => ?_
  exact (s1 (sset nd (xLst (a1 (xTup a0) a0))) (s1 (sfor hp (iseq (xix hu xW (L_ xI))) (gN nd) (s1 (sset nd (xLst a0)) (s1 (sfor hp (iseq xV) (gN nd) (s1 (sset nd (xadd xW (L_ (xf (comp_ nd (blkOk_by (own := [("at", 5)]) (N := N__law_starts) (sc := (defScope s__law_starts)) (by decide +kernel)) (irng1 G.n_range (a1 (xlen G.n_len (b1 xW b0)) a0)) (fun _ _ _ _ _ => (gN nd)) (fun _ _ _ _ _ => ts0) (fun _ _ _ _ _ => (xadd xW (L_ (xTup (a1 xV a0)))))))))) s0)) (s1 (sset nd xV) s0)))) (s1 (sret xV) s0)))
abbrev s__law_there : Stmt := topS 54
abbrev N__law_there : List Str := ["house_so", "start_so", "tick_so", "at", "row"]
theorem sc__law_there : FnScope N__law_there ["house_so", "start_so", "tick_so"] (defScope s__law_there) := ⟨rfl, rfl, rfl, by decide +kernel, rfl, by decide +kernel, by decide +kernel⟩
theorem w__law_there (G : Gs T mg base) : FnD T mg base 1 32 "_law_there" ["house_so", "start_so", "tick_so"] g__law_there := by
  refine fnD_by G.d__law_there sc__law_there rfl fun q a cdv A outer s H E e hr hu tk hp nd => ?_
  exact (s1 (sret (xf (comp_ nd (blkOk_by (own := [("at", 3), ("row", 4)]) (N := N__law_there) (sc := (defScope s__law_there)) (by decide +kernel)) (izip G.n_zip (a1 xV (a1 (xix hu xW (L_ xI)) a0))) (fun _ _ _ _ _ => (gT (g1 (gN nd) (g1 (gN nd) g0)) (pg_tup rfl (g1 (gN nd) (g1 (gN nd) g0))))) (fun _ _ _ _ _ => ts0) (fun _ _ _ _ _ => (xix hu xW (L_ (xmod (L_ (xint G.n_int (b1 (L_ (xadd xW xW)) b0))) (L_ (xlen G.n_len (b1 xW b0)))))))))) s0)
abbrev s__law_a_walk : Stmt := topS 55
abbrev N__law_a_walk : List Str := ["deck", "house_so", "many", "row", "turn"]
theorem sc__law_a_walk : FnScope N__law_a_walk ["deck", "house_so", "many"] (defScope s__law_a_walk) := ⟨rfl, rfl, rfl, by decide +kernel, rfl, by decide +kernel, by decide +kernel⟩
theorem w__law_a_walk (G : Gs T mg base) : FnD T mg base 3 33 "_law_a_walk" ["deck", "house_so", "many"] g__law_a_walk := by
  refine fnD_by G.d__law_a_walk sc__law_a_walk rfl fun q a cdv A outer s H E e hr hu tk hp nd => ?_
  exact (s1 (sown nd (flst (a1 (xcall tk (hr.mono (by decide)) (w__law_pick G) (a1 xV (a1 (xix hu xW (L_ xI)) a0))) a0))) (s1 (sfor hp (irng1 G.n_range (a1 (xsub xW (L_ xI)) a0)) (gN nd) (s1 (sapp (xcall tk (hr.mono (by decide)) (w__law_one G) (a1 xV (a1 (xadd (L_ (xLst (a1 (xix hu xW (L_ (xneg xI))) a0))) (L_ (xcall tk (hr.mono (by decide)) (w__law_by G) (a1 xV (a1 (xix hu xW (L_ (xneg xI))) a0))))) a0))) (fun h1 h2 => pe_bm PySem.F.plainAttrs_list PySem.F.slot_list_append PySem.F.type_list_append mt_append h1 h2)) s0)) (s1 (sret (xtuple G.n_tuple (b1 xW b0))) s0)))
abbrev s__law_caught : Stmt := topS 56
abbrev N__law_caught : List Str := ["house_so", "start_so", "walk_so", "tick_so", "now", "ahead", "at"]
theorem sc__law_caught : FnScope N__law_caught ["house_so", "start_so", "walk_so"] (defScope s__law_caught) := ⟨rfl, rfl, rfl, by decide +kernel, rfl, by decide +kernel, by decide +kernel⟩
theorem w__law_caught (G : Gs T mg base) : FnD T mg base 2 34 "_law_caught" ["house_so", "start_so", "walk_so"] g__law_caught := by
  refine fnD_by G.d__law_caught sc__law_caught rfl fun q a cdv A outer s H E e hr hu tk hp nd => ?_
  exact (s1 (sfor hp (irng1 G.n_range (a1 (xlen G.n_len (b1 xW b0)) a0)) (gN nd) (s1 (sset nd (xcall tk (hr.mono (by decide)) (w__law_there G) (a1 xV (a1 xV (a1 xV a0))))) (s1 (sif (tcmp .In hu (L_ (xix hu xW xW)) xW) (s1 (sret xV) s0) s0) (s1 (sif (PW.pt (tand (tcmp .Gt hu xW (L_ xI)) (tand1 (tcmp .NotEq hu (L_ (xix hu xW xW)) (L_ (xix hu xW (L_ (xsub xW (L_ xI))))))))) (s1 (sset nd (xcall tk (hr.mono (by decide)) (w__law_there G) (a1 xV (a1 xV (a1 (xsub xW (L_ xI)) a0))))) (s1 (sfor hp (irng1 G.n_range (a1 (xlen G.n_len (b1 xW b0)) a0)) (gN nd) (s1 (sif (PW.pt (tand (tcmp .Eq hu (L_ (xix hu xW xW)) (L_ (xix hu xW xW))) (tand1 (tcmp .Eq hu (L_ (xix hu xW xW)) (L_ (xix hu xW (L_ (xsub xW (L_ xI))))))))) (s1 (sret xV) s0) s0) s0)) s0)) s0) s0)))) (s1 (sret xN) s0))
abbrev s__law_free : Stmt := topS 57
abbrev N__law_free : List Str := ["house_so", "walk_so", "some", "one"]
theorem sc__law_free : FnScope N__law_free ["house_so", "walk_so"] (defScope s__law_free) := ⟨rfl, rfl, rfl, by decide +kernel, rfl, by decide +kernel, by decide +kernel⟩
theorem w__law_free (G : Gs T mg base) : FnD T mg base 3 35 "_law_free" ["house_so", "walk_so"] g__law_free := by
  refine fnD_by G.d__law_free sc__law_free rfl fun q a cdv A outer s H E e hr hu tk hp nd => ?_
  exact (s1 (setc_ nd (sw_true rfl rfl rfl (by decide +kernel)) (blkOk_by (own := [("one", 3)]) (N := N__law_free) (sc := (defScope s__law_free)) (by decide +kernel)) (iseq (xcall tk (hr.mono (by decide)) (w__law_starts G) (a1 xV a0))) (fun _ _ _ _ _ => (gN nd)) (fun _ _ _ _ _ => (ts1 (tcmp .NotIn hu (L_ (xix hu xW (L_ xI))) (L_ (xcall takesN0 (hr.mono (by decide)) (w__law_there G) (a1 xV (a1 xV (a1 xI a0)))))))) (fun _ _ _ _ _ => xV)) (s1 (sret (xcmp .Eq hu (L_ (xf (comp_ nd (blkOk_by (own := [("one", 3)]) (N := N__law_free) (sc := (defScope s__law_free)) (by decide +kernel)) (iseq xV) (fun _ _ _ _ _ => (gN nd)) (fun _ _ _ _ _ => (ts1 (tcmp .IsNot hu (L_ (xcall takesN0 (hr.mono (by decide)) (w__law_caught G) (a1 xV (a1 xV (a1 xV a0))))) (L_ xN)))) (fun _ _ _ _ _ => xI)))) (L_ (xLst a0)))) s0))
abbrev s__law_shortest : Stmt := topS 58
abbrev N__law_shortest : List Str := ["house_so", "room_so", "goal_so", "most", "rows_so", "tick_so", "ends", "longer", "row", "here"]
theorem sc__law_shortest : FnScope N__law_shortest ["house_so", "room_so", "goal_so", "most"] (defScope s__law_shortest) := ⟨rfl, rfl, rfl, by decide +kernel, rfl, by decide +kernel, by decide +kernel⟩
theorem w__law_shortest (G : Gs T mg base) : FnD T mg base 4 36 "_law_shortest" ["house_so", "room_so", "goal_so", "most"] g__law_shortest := by
  refine fnD_by G.d__law_shortest sc__law_shortest rfl fun q a cdv A outer s H E e hr hu tk hp nd => ?_
  exact (s1 (sset nd (xLst (a1 (xTup (a1 xV a0)) a0))) (s1 (sfor hp (irng1 G.n_range (a1 (xadd xW (L_ xI)) a0)) (gN nd) (s1 (setc_ nd (sw_true rfl rfl rfl (by decide +kernel)) (blkOk_by (own := [("row", 8)]) (N := N__law_shortest) (sc := (defScope s__law_shortest)) (by decide +kernel)) (iseq xV) (fun _ _ _ _ _ => (gN nd)) (fun _ _ _ _ _ => (ts1 (tcmp .Eq hu (L_ (xix hu xW (L_ (xneg xI)))) xW))) (fun _ _ _ _ _ => xV)) (s1 (sif (tcmp .NotEq hu xW (L_ (xLst a0))) (s1 (sret (xmin1 hu G.n_min (b1 xW b0))) s0) s0) (s1 (sown nd (flst a0)) (s1 (sfor hp (iseq xV) (gN nd) (s1 (sfor hp (iseq (xadd (L_ (xLst (a1 (xix hu xW (L_ (xneg xI))) a0))) (L_ (xcall tk (hr.mono (by decide)) (w__law_by G) (a1 xV (a1 (xix hu xW (L_ (xneg xI))) a0)))))) (gN nd) (s1 (sif (tval (xcall tk (hr.mono (by decide)) (w__law_free G) (a1 xV (a1 (xadd xW (L_ (xTup (a1 xV a0)))) a0)))) (s1 (sapp (xadd xW (L_ (xTup (a1 xV a0)))) (fun h1 h2 => pe_bm PySem.F.plainAttrs_list PySem.F.slot_list_append PySem.F.type_list_append mt_append h1 h2)) s0) s0) s0)) s0)) (s1 (sset nd (xsl xW o0 (o1 xI))) s0)))))) (s1 (sret xN) s0)))
abbrev s__law_written : Stmt := topS 59
abbrev N__law_written : List Str := ["one", "two", "three", "four", "wide", "free"]
theorem sc__law_written : FnScope N__law_written [] (defScope s__law_written) := ⟨rfl, rfl, rfl, by decide +kernel, rfl, by decide +kernel, by decide +kernel⟩
theorem w__law_written (G : Gs T mg base) : FnD T mg base 6 37 "_law_written" [] g__law_written := by
  refine fnD_by G.d__law_written sc__law_written rfl fun q a cdv A outer s H E e hr hu tk hp nd => ?_
  exact (s1 (sasg (xcall0 tk (hr.mono (by decide)) (w__law_known G)) (gT (g1 (gN nd) (g1 (gN nd) (g1 (gN nd) (g1 (gN nd) g0)))) (pg_tup rfl (g1 (gN nd) (g1 (gN nd) (g1 (gN nd) (g1 (gN nd) g0))))))) (s1 (sif (PW.pt (tor (tnot (tval (xcall tk (hr.mono (by decide)) (w_surely_unmet G) (a1 xV (a1 (xTup (a1 xI a0)) a0))))) (tor (tval (xcall tk (hr.mono (by decide)) (w_surely_unmet G) (a1 xV (a1 (xTup (a1 xI (a1 xI a0))) a0)))) (tor1 (tnot (tval (xcall tk (hr.mono (by decide)) (w_surely_unmet G) (a1 xV (a1 (xTup (a1 xI (a1 xI (a1 xI (a1 xI (a1 xI a0)))))) a0))))))))) (s1 (sret xB) s0) s0) (s1 (sif (PW.pt (tor (tcmp .NotEq hu (L_ (xcall tk (hr.mono (by decide)) (w_safe_walk G) (a1 xV (a1 xI (a1 xI (a1 xI a0)))))) (L_ (xTup (a1 xI (a1 xI a0))))) (tor1 (tcmp .NotEq hu (L_ (xcall tk (hr.mono (by decide)) (w_safe_walk G) (a1 xV (a1 xI (a1 xI (a1 xI a0)))))) (L_ (xTup (a1 xI (a1 xI (a1 xI a0))))))))) (s1 (sret xB) s0) s0) (s1 (sif (PW.pt (tor (tcmp .IsNot hu (L_ (xcall tk (hr.mono (by decide)) (w_safe_walk G) (a1 xV (a1 xI (a1 xI (a1 xI a0)))))) (L_ xN)) (tor1 (tcmp .IsNot hu (L_ (xcall tk (hr.mono (by decide)) (w_safe_walk G) (a1 xV (a1 xI (a1 xI (a1 xI a0)))))) (L_ xN))))) (s1 (sret xB) s0) s0) (s1 (sset nd (xTup (a1 xI (a1 (xTup (a1 (xTup (a1 xI (a1 xI a0))) (a1 (xTup (a1 xI (a1 xI a0))) (a1 (xTup (a1 xI (a1 xI a0))) (a1 (xTup (a1 xI (a1 xI a0))) a0))))) (a1 (xTup (a1 (xTup (a1 xI a0)) a0)) a0))))) (s1 (sif (PW.pt (tor (tcmp .NotEq hu (L_ (xcall tk (hr.mono (by decide)) (w_safe_walk G) (a1 xV (a1 xI (a1 xI (a1 xI a0)))))) (L_ (xTup (a1 xI (a1 xI (a1 xI a0)))))) (tor1 (tcmp .NotEq hu (L_ (xcall tk (hr.mono (by decide)) (w_safe_walk G) (a1 (xTup (a1 xI (a1 (xix hu xW (L_ xI)) (a1 (xTup (a1 (xTup (a1 xI a0)) a0)) a0)))) (a1 xI (a1 xI (a1 xI a0)))))) (L_ (xTup (a1 xI (a1 xI (a1 xI a0))))))))) (s1 (sret xB) s0) s0) (s1 (sset nd (xTup (a1 xI (a1 (xTup (a1 (xTup (a1 xI (a1 xI a0))) (a1 (xTup (a1 xI (a1 xI a0))) (a1 (xTup (a1 xI (a1 xI a0))) (a1 (xTup (a1 xI (a1 xI a0))) (a1 (xTup (a1 xI (a1 xI a0))) a0)))))) (a1 (xTup (a1 (xTup (a1 xI a0)) a0)) a0))))) (s1 (sret (xand (xcmp .Eq hu (L_ (xcall tk (hr.mono (by decide)) (w_safe_walk G) (a1 xV (a1 xI (a1 xI (a1 xI a0)))))) (L_ (xTup (a1 xI (a1 xI (a1 xI a0)))))) (xand1 (xcmp .Eq hu (L_ (xcall tk (hr.mono (by decide)) (w_safe_walk G) (a1 xV (a1 xI (a1 xI (a1 xI a0)))))) (L_ (xTup (a1 xI a0))))))) s0))))))))
abbrev s_law : Stmt := topS 60
abbrev N_law : List Str := ["script", "cell", "deck", "turn", "house_so", "more", "walk_so", "room_so", "goal_so", "most", "due", "odd"]
theorem sc_law : FnScope N_law ["script"] (defScope s_law) := ⟨rfl, rfl, rfl, by decide +kernel, rfl, by decide +kernel, by decide +kernel⟩
theorem w_law (G : Gs T mg base) : FnD T mg base 11 38 "law" ["script"] g_law := by
  refine fnD_byL G.d_law sc_law rfl fun q a cdv A outer s H E e lm hr hu tk hp nd => ?_
  exact (s1 (sfor hp (iseq (xsl (L_ (xadd (L_ (xLst (a1 xI a0))) xW)) o0 (o1 xI))) (gN nd) (s1 (sset nd (xcall tk (hr.mono (by decide)) (w__law_deck G) (a1 xV (a1 xI a0)))) (s1 (sfor hp (irng1 G.n_range (a1 xI a0)) (gN nd) (s1 (sset nd (xcall tk (hr.mono (by decide)) (w__law_a_house G) (a1 xV (a1 xI (a1 xI a0))))) (s1 (sfor hp (irng1 G.n_range (a1 xI a0)) (gN nd) (s1 (sset nd (xcall tk (hr.mono (by decide)) (w__law_a_walk G) (a1 xV (a1 xV (a1 (xadd (L_ xI) (L_ (xcall tk (hr.mono (by decide)) (w__law_pick G) (a1 xV (a1 xI a0))))) a0))))) (s1 (sif (tnot (tval (xcall tk (hr.mono (by decide)) (w__law_same G 8) (a1 (xcall tk (hr.mono (by decide)) (w_surely_unmet G) (a1 xV (a1 xV a0))) (a1 (xcall tk (hr.mono (by decide)) (w__law_free G) (a1 xV (a1 xV a0))) a0))))) (s1 (sret xB) s0) s0) s0))) (s1 (spar nd (a1 (xcall tk (hr.mono (by decide)) (w__law_pick G) (a1 xV (a1 (xix hu xW (L_ xI)) a0))) (a1 (xcall tk (hr.mono (by decide)) (w__law_pick G) (a1 xV (a1 (xix hu xW (L_ xI)) a0))) a0))) (s1 (sfor hp (iseq (xTup (a1 xI (a1 xI (a1 xI a0))))) (gN nd) (s1 (sset nd (xcall tk (hr.mono (by decide)) (w__law_shortest G) (a1 xV (a1 xV (a1 xV (a1 xV a0)))))) (s1 (sif (tnot (tval (xcall tk (hr.mono (by decide)) (w__law_same G 8) (a1 (xcall tk (hr.mono (by decide)) (w_safe_walk G) (a1 xV (a1 xV (a1 xV (a1 xV a0))))) (a1 xV a0))))) (s1 (sret xB) s0) s0) s0))) s0))))) (s1 (sif (tcmp .NotEq hu (L_ (xtry (defScope s_law) (k := 5) (tryD G) lm (hr.mono (by decide)) (by decide) (fun A outer s H E f c hr => have hu := room_u hr; (xcall lamN_takes (hr.mono (by decide)) (w_surely_unmet G) (a1 xN (a1 xN a0)))))) (L_ xS)) (s1 (sret xB) s0) s0) (s1 (sif (tcmp .NotEq hu (L_ (xtry (defScope s_law) (k := 5) (tryD G) lm (hr.mono (by decide)) (by decide) (fun A outer s H E f c hr => have hu := room_u hr; (xcall lamN_takes (hr.mono (by decide)) (w_surely_unmet G) (a1 xV (a1 (xTup a0) a0)))))) (L_ xS)) (s1 (sret xB) s0) s0) (s1 (sif (tcmp .NotEq hu (L_ (xtry (defScope s_law) (k := 5) (tryD G) lm (hr.mono (by decide)) (by decide) (fun A outer s H E f c hr => have hu := room_u hr; (xcall lamN_takes (hr.mono (by decide)) (w_safe_walk G) (a1 xN (a1 xN (a1 xN (a1 xN a0)))))))) (L_ xS)) (s1 (sret xB) s0) s0) (s1 (sfor hp (iseq (xLst (a1 xN (a1 (xneg xI) (a1 (xix hu xW (L_ xI)) (a1 xB (a1 xS a0))))))) (gN nd) (s1 (sif (tcmp .NotEq hu (L_ (xtry (defScope s_law) (k := 5) (tryD G) lm (hr.mono (by decide)) (by decide) (fun A outer s H E f c hr => have hu := room_u hr; (xcall lamN_takes (hr.mono (by decide)) (w_safe_walk G) (a1 xV (a1 xV (a1 xN (a1 xN a0)))))))) (L_ xS)) (s1 (sret xB) s0) s0) (s1 (sif (tcmp .NotEq hu (L_ (xtry (defScope s_law) (k := 5) (tryD G) lm (hr.mono (by decide)) (by decide) (fun A outer s H E f c hr => have hu := room_u hr; (xcall lamN_takes (hr.mono (by decide)) (w_safe_walk G) (a1 xV (a1 xI (a1 xV (a1 xN a0)))))))) (L_ xS)) (s1 (sret xB) s0) s0) s0))) (s1 (sfor hp (iseq (xLst (a1 xN (a1 (xneg xI) (a1 xI (a1 xB a0)))))) (gN nd) (s1 (sif (tcmp .NotEq hu (L_ (xtry (defScope s_law) (k := 5) (tryD G) lm (hr.mono (by decide)) (by decide) (fun A outer s H E f c hr => have hu := room_u hr; (xcall lamN_takes (hr.mono (by decide)) (w_safe_walk G) (a1 xV (a1 xI (a1 xI (a1 xV a0)))))))) (L_ xS)) (s1 (sret xB) s0) s0) s0)) s0)))))))) (s1 (sret (xcall0 tk (hr.mono (by decide)) (w__law_written G))) s0))
end
end Q
set_option Elab.async false
set_option linter.all false
set_option maxRecDepth 100000
set_option maxHeartbeats 4000000
namespace Q
open PySem PySem.Spec PyProof.Rows
theorem p_is_within (v lo hi : Int) (S : List MO) : g_is_within [.int v, .int lo, .int hi] S = .ok (.bl (decide (lo ≤ v) && decide (v ≤ hi))) S := by
  by_cases h : lo ≤ v <;> simp [g_is_within, F_is_within, sd0, isiD, tyD, chainD_ap, cmpD, h]
theorem p_has_items (ds : List D) (lo hi : Int) (S : List MO) : g_has_items [.tup ds, .int lo, .int hi] S = .ok (.bl (decide (lo ≤ ds.length) && decide ((ds.length : Int) ≤ hi))) S := by
  by_cases h : lo ≤ (ds.length : Int) <;> simp [g_has_items, F_has_items, sd0, isiD, tyD, chainD_ap, cmpD, lenD, h]
theorem p_has_items_lst (ds : List D) (lo hi : Int) (S : List MO) : g_has_items [.lst ds, .int lo, .int hi] S = .ok (.bl false) S := by
  simp [g_has_items, F_has_items, sd0, isiD, tyD]
theorem p_has_items_non (lo hi : Int) (S : List MO) : g_has_items [.non, .int lo, .int hi] S = .ok (.bl false) S := by
  simp [g_has_items, F_has_items, sd0, isiD, tyD]
def mn (a b : Int) : Int := if b < a then b else a
def mx (a b : Int) : Int := if a < b then b else a
def nearB (doors : List (Int × Int)) (a b : Int) : Bool := decide (a = b) || decide ((mn a b, mx a b) ∈ doors)
theorem p_is_near (doors : List (Int × Int)) (a b : Int) (S : List MO) : g_is_near [.tup (doors.map eP), .int a, .int b] S = .ok (.bl (nearB doors a b)) S := by
  have h2 : (2 : Nat) ≤ sizeLine := by decide
  have hin := in_doors doors (mn a b, mx a b)
  simp only [eP, mn, mx] at hin
  by_cases h : a = b
  · simp [g_is_near, F_is_near, sd0, cmp_eq_int, h, nearB]
  · simp [g_is_near, F_is_near, sd0, cmp_eq_int, h, nearB, min2D, max2D, h2, hin, mn, mx]
theorem bools_map {α : Type} (f : α → Bool) : ∀ l : List α, bools (l.map fun x => D.bl (f x)) = some (l.map f)
  | [] => rfl
  | x :: l => by
    show (bools (l.map fun x => D.bl (f x))).map (f x :: ·) = _
    rw [bools_map f l]
    rfl
theorem all_map {α : Type} (f : α → Bool) (l : List α) : allD [.lst (l.map fun x => D.bl (f x))] = some (.bl (l.all f)) := by
  show (bools (l.map fun x => D.bl (f x))).map (fun bs => D.bl (bs.all id)) = _
  rw [bools_map]
  simp [List.all_map]
/-- all([f(x) for x in ..]) -/
theorem all_comp {α : Type} {it : AF} {t : Tg} {vs : List Nat} {e : EF} {sd : List SV} {S : List MO} (xs : List α) (en : α → D) (f : α → Bool) (h : it sd S = .ok (xs.map en) S) (hs : xs.length < sizeLine) (ht : ∀ x ∈ xs, turnM t vs sd yesT e (en x) S = .ok (some (.bl (f x))) S) :
    biE allD (consA (frsE (compF it t vs yesT e)) nilA) sd S = .ok (.bl (xs.all f)) S := by
  have q := comp_map (en2 := fun b : Bool => D.bl b) xs en (fun x => some (f x)) h hs (fun x hx => ht x hx)
  simp only [biE_ap, consA_ap, frsE_ap, q, bnd_ok, nilA_ap]
  have e1 : (List.filterMap (fun x => some (f x)) xs).map (fun b : Bool => D.bl b) = xs.map fun x => D.bl (f x) := by
    induction xs with
    | nil => rfl
    | cons x xs ih =>
      simp [List.filterMap_cons]
  rw [e1, all_map]
  rfl
theorem filterMap_some {α β : Type} (f : α → β) : ∀ l : List α, l.filterMap (fun x => some (f x)) = l.map f
  | [] => rfl
  | x :: l => by simp [List.filterMap_cons, filterMap_some f l]
def inB (n : Int) (x : Int) : Bool := decide (0 ≤ x) && decide (x ≤ n - 1)
def rowB (row : List Int) (n : Int) (doors : List (Int × Int)) (most : Int) : Bool :=
  decide (1 ≤ (row.length : Int)) && decide ((row.length : Int) ≤ most) && row.all (inB n) && (row.zip row.tail).all fun p => nearB doors p.1 p.2
theorem cut1 (xs : List D) : cutD xs (some 1) none = xs.drop 1 := by
  cases xs with
  | nil => rfl
  | cons x xs =>
    have e : HT.sIx (x :: xs).length 0 (some 1) = 1 := by
      show (if (1 : Int) < 0 then ((1 : Int) + ((x :: xs).length : Int)).toNat else min (1 : Int).toNat (x :: xs).length) = 1
      rw [if_neg (by omega)]
      simp
    unfold cutD
    rw [e]
    simp [HT.sIx]
theorem zip_ints : ∀ (xs ys : List Int), zipD (xs.map .int) (ys.map .int) = (xs.zip ys).map eP
  | [], _ => by simp [zipD]
  | _ :: _, [] => by simp [zipD]
  | x :: xs, y :: ys => by
    have ih := zip_ints xs ys
    simp only [zipD] at ih ⊢
    simp [eP, ih]
theorem zip_map (row : List Int) : zipD (row.map .int) (row.map D.int).tail = (row.zip row.tail).map eP := by
  rw [← List.map_tail]
  exact zip_ints row row.tail
theorem allD_map {α : Type} (f : α → Bool) (l : List α) : allD [D.lst (List.map ((fun b => D.bl b) ∘ f) l)] = some (.bl (l.all f)) := all_map f l
theorem p_is_row (row : List Int) (n : Int) (doors : List (Int × Int)) (most : Int) (hl : row.length < 1000000) (S : List MO) : g_is_row [.tup (row.map .int), .int n, .tup (doors.map eP), .int most] S = .ok (.bl (rowB row n doors most)) S := by
  have hs : row.length < sizeLine := Nat.lt_of_lt_of_le hl (by decide)
  have q1 := comp_map (it := seqI (getv 0)) (t := .nm 4) (vs := [4]) (c := yesT) (e := callE g_is_within (consA (getv 4) (consA (litE (.int 0)) (consA (opE subD (getb 1) (litE (.int 1))) nilA))))
    (sd := [.val (.tup (row.map .int)), .val (.int n), .val (.tup (doors.map eP)), .val (.int most), .un, .un, .un]) (S := S) row .int (fun b : Bool => .bl b) (fun x => some (inB n x)) (by simp [itemsD]) hs (fun x _ => by
      rw [turn_ap (sd' := [.val (.tup (row.map .int)), .val (.int n), .val (.tup (doors.map eP)), .val (.int most), .val (.int x), .un, .un]) rfl]
      simp [subD, p_is_within, inB])
  have q2 := comp_map (it := zipI (consA (getv 0) (consA (slE (getb 0) (partO (some (litE (.int 1)))) (partO none)) nilA))) (t := .tp [.nm 5, .nm 6]) (vs := [5, 6]) (c := yesT) (e := callE g_is_near (consA (getv 2) (consA (getv 5) (consA (getv 6) nilA))))
    (sd := [.val (.tup (row.map .int)), .val (.int n), .val (.tup (doors.map eP)), .val (.int most), .un, .un, .un]) (S := S) (row.zip row.tail) eP (fun b : Bool => .bl b) (fun p => some (nearB doors p.1 p.2)) (by simp [slD, cut1, zipM, zip_map, -List.map_drop]) (by simp; omega) (fun p _ => by
      rw [turn_ap (sd' := [.val (.tup (row.map .int)), .val (.int n), .val (.tup (doors.map eP)), .val (.int most), .un, .val (.int p.1), .val (.int p.2)]) rfl]
      simp [p_is_near])
  simp only [filterMap_some] at q1 q2
  by_cases h : (row.length : Int) < 1 ∨ most < (row.length : Int)
  · have e : rowB row n doors most = false := by
      unfold rowB
      rcases h with h | h
      · have : ¬ 1 ≤ (row.length : Int) := by omega
        simp [this]
      · have : ¬ (row.length : Int) ≤ most := by omega
        simp [this]
    simp [g_is_row, F_is_row, sd0, p_has_items, q1, q2, h, e]
  · have h1 : 1 ≤ (row.length : Int) := by omega
    have h2 : (row.length : Int) ≤ most := by omega
    cases ha : row.all (inB n) with
    | false => simp [g_is_row, F_is_row, sd0, p_has_items, q1, q2, h, allD_map, ha, rowB]
    | true =>
      have e : rowB row n doors most = (row.zip row.tail).all fun p => nearB doors p.1 p.2 := by
        unfold rowB
        simp [h1, h2, ha]
      simp [g_is_row, F_is_row, sd0, p_has_items, q1, q2, h, allD_map, ha, e, -List.all_eq_true]
theorem zip_gen {α β : Type} (f : α → D) (g : β → D) : ∀ (xs : List α) (ys : List β), zipD (xs.map f) (ys.map g) = (xs.zip ys).map fun p => .tup [f p.1, g p.2]
  | [], _ => by simp [zipD]
  | _ :: _, [] => by simp [zipD]
  | x :: xs, y :: ys => by
    have ih := zip_gen f g xs ys
    simp only [zipD] at ih ⊢
    simp [ih]
theorem zip_tail {α : Type} (f : α → D) (xs : List α) : zipD (xs.map f) (xs.map f).tail = (xs.zip xs.tail).map fun p => .tup [f p.1, f p.2] := by
  rw [← List.map_tail]
  exact zip_gen f f xs xs.tail
def ltP (p q : Int × Int) : Bool := decide (p.1 < q.1 ∨ (p.1 = q.1 ∧ p.2 < q.2))
theorem lt_eP (p q : Int × Int) : cmpD .Lt (eP p) (eP q) = some (.bl (ltP p q)) := by
  have h1 : ∀ p, ok60 (eP p) = true := fun p => ok_eP p 59
  have e : cmpD .Lt (eP p) (eP q) = if ordOk (eP p) (eP q) then some (.bl (ltD (eP p) (eP q))) else none := rfl
  have o : ordOk (eP p) (eP q) = true := by
    unfold ordOk
    rw [h1, h1]
    simp [eP, D.py, pyA, PySem.W.alike, PySem.W.alikeAll]
  have l : ltD (eP p) (eP q) = ltP p q := by
    unfold ltD ltP
    simp only [eP, D.py, pyA]
    exact PySem.W.dataLt_ii _ _ _ _
  rw [e, o, l]
  rfl
def ascB (l : List (Int × Int)) : Bool := (l.zip l.tail).all fun p => ltP p.1 p.2
theorem p_ascends (l : List (Int × Int)) (hl : l.length < 1000000) (S : List MO) : g_ascends [.tup (l.map eP)] S = .ok (.bl (ascB l)) S := by
  have hs : l.length < sizeLine := Nat.lt_of_lt_of_le hl (by decide)
  have q := comp_map (it := zipI (consA (getv 0) (consA (slE (getb 0) (partO (some (litE (.int 1)))) (partO none)) nilA))) (t := .tp [.nm 1, .nm 2]) (vs := [1, 2]) (c := yesT) (e := opE (cmpD .Lt) (getb 1) (getb 2))
    (sd := [.val (.tup (l.map eP)), .un, .un]) (S := S) (l.zip l.tail) (fun p => .tup [eP p.1, eP p.2]) (fun b : Bool => .bl b) (fun p => some (ltP p.1 p.2)) (by simp [slD, cut1, zipM, zip_tail, -List.map_tail]) (by simp; omega) (fun p _ => by
      rw [turn_ap (sd' := [.val (.tup (l.map eP)), .val (eP p.1), .val (eP p.2)]) rfl]
      simp [lt_eP])
  simp only [filterMap_some] at q
  have e : allD [D.lst (List.map ((fun b => D.bl b) ∘ fun p : (Int × Int) × (Int × Int) => ltP p.1 p.2) (l.zip l.tail))] = some (.bl (ascB l)) := allD_map _ _
  simp [g_ascends, F_ascends, sd0, q, e, -List.map_tail]
/-- a loop that leaves with d at the first item that is not ok -/
theorem for_chk {α : Type} (en : α → D) (ok : α → Bool) (i : Nat) {body : SF} {sd : List SV} {S : List MO} {d : D} : ∀ (xs : List α), (∀ x ∈ xs, body (sd.set i (.val (en x))) S = if ok x then .nx (sd.set i (.val (en x))) S else .rt d S) → ∀ v : SV,
    ∃ v', forF (.nm i) body (xs.map en) (sd.set i v) S = if xs.all ok then .nx (sd.set i v') S else .rt d S
  | [], _, v => ⟨v, by simp [forF]⟩
  | x :: xs, hb, v => by
    obtain ⟨v', h'⟩ := for_chk en ok i xs (fun y hy => hb y (List.mem_cons_of_mem _ hy)) (.val (en x))
    refine ⟨v', ?_⟩
    have h1 := hb x (List.mem_cons_self ..)
    have e : forF (.nm i) body (en x :: xs.map en) (sd.set i v) S = (match body ((sd.set i v).set i (.val (en x))) S with
      | .nx sd2 S2 => forF (.nm i) body (xs.map en) sd2 S2
      | .rt d S2 => .rt d S2
      | .ex x sd2 S2 => .ex x sd2 S2
      | .bad => .bad) := rfl
    rw [List.map_cons, e, List.set_set, h1]
    cases hx : ok x with
    | false => simp [hx]
    | true => simp [hx, h']
def doorB (n : Int) (p : Int × Int) : Bool := inB n p.1 && inB n p.2 && decide (p.1 < p.2)
def doorsB (l : List (Int × Int)) (n : Int) : Bool := decide (1 ≤ (l.length : Int)) && decide ((l.length : Int) ≤ 15) && l.all (doorB n) && ascB l
theorem p_are_doors (l : List (Int × Int)) (n : Int) (hl : l.length < 1000000) (S : List MO) : g_are_doors [.tup (l.map eP), .int n] S = .ok (.bl (doorsB l n)) S := by
  have hs : l.length < sizeLine := Nat.lt_of_lt_of_le hl (by decide)
  have two : (2 : Nat) < sizeLine := by decide
  have comp : ∀ p : Int × Int, compF (seqI (getv 2)) (.nm 3) [3] yesT (callE g_is_within (consA (getv 3) (consA (litE (.int 0)) (consA (opE subD (getb 1) (litE (.int 1))) nilA)))) [.val (.tup (l.map eP)), .val (.int n), .val (eP p), .un] S = .ok [.bl (inB n p.1), .bl (inB n p.2)] S := fun p => by
    have q := comp_map (it := seqI (getv 2)) (t := .nm 3) (vs := [3]) (c := yesT) (e := callE g_is_within (consA (getv 3) (consA (litE (.int 0)) (consA (opE subD (getb 1) (litE (.int 1))) nilA))))
      (sd := [.val (.tup (l.map eP)), .val (.int n), .val (eP p), .un]) (S := S) [p.1, p.2] .int (fun b : Bool => .bl b) (fun x => some (inB n x)) (by simp [itemsD, eP]) two (fun x _ => by
        rw [turn_ap (sd' := [.val (.tup (l.map eP)), .val (.int n), .val (eP p), .val (.int x)]) rfl]
        simp [subD, p_is_within, inB])
    simpa using q
  obtain ⟨v', hf⟩ := for_chk eP (doorB n) 2 (body := (seqF (ofM (orT (notT (valT (callE g_has_items (consA (getv 2) (consA (litE (.int 2)) (consA (litE (.int 2)) nilA)))))) (notT (valT (biE allD (consA (frsE (compF (seqI (getv 2)) (.nm 3) [3] yesT (callE g_is_within (consA (getv 3) (consA (litE (.int 0)) (consA (opE subD (getb 1) (litE (.int 1))) nilA)))))) nilA))))) (ifF (seqF (ofM (litE (.bl false)) retF) nxF) nxF)) (seqF (ofM (valT (opE (cmpD .GtE) (ixE (getb 2) (litE (.int 0))) (ixE (getb 2) (litE (.int 1))))) (ifF (seqF (ofM (litE (.bl false)) retF) nxF) nxF)) nxF)))
    (sd := [.val (.tup (l.map eP)), .val (.int n), .un, .un]) (S := S) (d := .bl false) l (fun p _ => by
      have hi : g_has_items [eP p, .int 2, .int 2] S = .ok (.bl true) S := p_has_items _ _ _ _
      have hx0 : ixD S (eP p) (.int 0) = some (.int p.1) := rfl
      have hx1 : ixD S (eP p) (.int 1) = some (.int p.2) := rfl
      have ha : ∀ a b : Bool, allD [D.lst [.bl a, .bl b]] = some (.bl (a && b)) := fun a b => by simp [allD, bools]
      by_cases h3 : p.1 < p.2
      · have h3' : ¬ p.2 ≤ p.1 := by omega
        cases h1 : inB n p.1 <;> cases h2 : inB n p.2 <;> simp [hi, comp, ha, hx0, hx1, doorB, h1, h2, h3, h3', cmpD]
      · have h3' : p.2 ≤ p.1 := by omega
        cases h1 : inB n p.1 <;> cases h2 : inB n p.2 <;> simp [hi, comp, ha, hx0, hx1, doorB, h1, h2, h3, h3', cmpD]) .un
  have hf : forF (.nm 2) (seqF (ofM (orT (notT (valT (callE g_has_items (consA (getv 2) (consA (litE (.int 2)) (consA (litE (.int 2)) nilA)))))) (notT (valT (biE allD (consA (frsE (compF (seqI (getv 2)) (.nm 3) [3] yesT (callE g_is_within (consA (getv 3) (consA (litE (.int 0)) (consA (opE subD (getb 1) (litE (.int 1))) nilA)))))) nilA))))) (ifF (seqF (ofM (litE (.bl false)) retF) nxF) nxF)) (seqF (ofM (valT (opE (cmpD .GtE) (ixE (getb 2) (litE (.int 0))) (ixE (getb 2) (litE (.int 1))))) (ifF (seqF (ofM (litE (.bl false)) retF) nxF) nxF)) nxF)) (l.map eP)
      [.val (.tup (l.map eP)), .val (.int n), .un, .un] S = if l.all (doorB n) then .nx [.val (.tup (l.map eP)), .val (.int n), v', .un] S else .rt (.bl false) S := hf
  by_cases h : (l.length : Int) < 1 ∨ 15 < (l.length : Int)
  · have e : doorsB l n = false := by
      unfold doorsB
      rcases h with h | h
      · have : ¬ 1 ≤ (l.length : Int) := by omega
        simp [this]
      · have : ¬ (l.length : Int) ≤ 15 := by omega
        simp [this]
    rw [e]
    rcases h with h | h
    · have h0 : l.length = 0 := by omega
      simp [g_are_doors, F_are_doors, sd0, p_has_items, h0]
    · have h1 : ¬ (l.length : Int) ≤ 15 := by omega
      have h2 : 1 ≤ (l.length : Int) := by omega
      simp [g_are_doors, F_are_doors, sd0, p_has_items, h1]
  · have h1 : 1 ≤ (l.length : Int) := by omega
    have h2 : (l.length : Int) ≤ 15 := by omega
    have e : doorsB l n = (l.all (doorB n) && ascB l) := by
      unfold doorsB
      simp [h1, h2]
    rw [e]
    cases ha : l.all (doorB n) with
    | false =>
      rw [ha] at hf
      simp [g_are_doors, F_are_doors, sd0, p_has_items, h1, h2, hf, itemsD]
    | true =>
      rw [ha] at hf
      simp [g_are_doors, F_are_doors, sd0, p_has_items, h1, h2, hf, itemsD, p_ascends l hl]
def prodB (rounds : List (List Int)) (a : Int) : Int := rounds.foldl (fun a r => a * (r.length : Int)) a
theorem for_prod (w0 : SV) (S : List MO) : ∀ (rs : List (List Int)) (hr : ∀ r ∈ rs, r.length < 1000000) (a : Int) (v : SV), ∃ v', forF (.nm 2) (seqF (ofM (opE mulD (getb 1) (biE lenD (consA (getb 2) nilA))) (setF 1)) nxF) (rs.map eR) [w0, .val (.int a), v] S = .nx [w0, .val (.int (prodB rs a)), v'] S
  | [], _, a, v => ⟨v, rfl⟩
  | r :: rs, hr, a, v => by
    obtain ⟨v', h⟩ := for_prod w0 S rs (fun x hx => hr x (List.mem_cons_of_mem _ hx)) (a * (r.length : Int)) (.val (eR r))
    have hr0 : (-18446744073709551616 < (r.length : Int)) ∧ (r.length : Int) < 18446744073709551616 := by
      have := hr r (List.mem_cons_self ..)
      omega
    refine ⟨v', ?_⟩
    have e : forF (.nm 2) (seqF (ofM (opE mulD (getb 1) (biE lenD (consA (getb 2) nilA))) (setF 1)) nxF) (eR r :: rs.map eR) [w0, .val (.int a), v] S = (match (seqF (ofM (opE mulD (getb 1) (biE lenD (consA (getb 2) nilA))) (setF 1)) nxF) [w0, .val (.int a), .val (eR r)] S with
      | .nx sd2 S2 => forF (.nm 2) (seqF (ofM (opE mulD (getb 1) (biE lenD (consA (getb 2) nilA))) (setF 1)) nxF) (rs.map eR) sd2 S2
      | .rt d S2 => .rt d S2
      | .ex x sd2 S2 => .ex x sd2 S2
      | .bad => .bad) := rfl
    have hl : lenD [eR r] = some (.int r.length) := by simp [eR, lenD]
    have hb : (seqF (ofM (opE mulD (getb 1) (biE lenD (consA (getb 2) nilA))) (setF 1)) nxF) [w0, .val (.int a), .val (eR r)] S = .nx [w0, .val (.int (a * (r.length : Int))), .val (eR r)] S := by
      simp [hl, mulD, hr0]
    rw [List.map_cons, e, hb]
    exact h
theorem p_product_of (rs : List (List Int)) (hr : ∀ r ∈ rs, r.length < 1000000) (S : List MO) : g_product_of [.tup (rs.map eR)] S = .ok (.int (prodB rs 1)) S := by
  obtain ⟨v', h⟩ := for_prod (.val (.tup (rs.map eR))) S rs hr 1 .un
  simp [g_product_of, F_product_of, sd0, itemsD, h]
structure HS where
  n : Int
  doors : List (Int × Int)
  rounds : List (List Int)
def eH (h : HS) : D := .tup [.int h.n, .tup (h.doors.map eP), .tup (h.rounds.map eR)]
theorem ixH0 (h : HS) (S : List MO) : ixD S (eH h) (.int 0) = some (.int h.n) := rfl
theorem ixH1 (h : HS) (S : List MO) : ixD S (eH h) (.int 1) = some (.tup (h.doors.map eP)) := rfl
theorem ixH2 (h : HS) (S : List MO) : ixD S (eH h) (.int 2) = some (.tup (h.rounds.map eR)) := rfl
def beginsB (h : HS) (b : List Int) : Bool := decide (b.length = h.rounds.length) && (b.zip h.rounds).all fun p => inB (p.2.length : Int) p.1
def headI (r : List Int) : Int := r.headD 0
def lastI (r : List Int) : Int := r.getLastD 0
theorem ixR0 {r : List Int} (h : r ≠ []) (S : List MO) : ixD S (eR r) (.int 0) = some (.int (headI r)) := by
  cases r with
  | nil => exact absurd rfl h
  | cons a r =>
    have e : L2.ixN (List.map D.int (a :: r)).length 0 = some 0 := by
      unfold L2.ixN
      simp
    show L2.atI (List.map D.int (a :: r)) 0 = _
    unfold L2.atI
    rw [e]
    rfl
structure HouseOk (h : HS) : Prop where
  n2 : 2 ≤ h.n
  n6 : h.n ≤ 6
  d : doorsB h.doors h.n = true
  r1 : 1 ≤ h.rounds.length
  r3 : h.rounds.length ≤ 3
  rows : ∀ r ∈ h.rounds, rowB r h.n h.doors 6 = true
  ends : ∀ r ∈ h.rounds, nearB h.doors (lastI r) (headI r) = true
  prod : prodB h.rounds 1 ≤ 60
theorem ixRl {r : List Int} (h : r ≠ []) (S : List MO) : ixD S (eR r) (.int (-1)) = some (.int (lastI r)) := by
  have hl : 1 ≤ r.length := by
    cases r with
    | nil => exact absurd rfl h
    | cons a r => simp
  have e : L2.ixN (List.map D.int r).length (-1) = some (r.length - 1) := by
    unfold L2.ixN
    simp
    omega
  show L2.atI (List.map D.int r) (-1) = _
  unfold L2.atI
  rw [e]
  show (List.map D.int r)[r.length - 1]? = _
  rw [List.getElem?_map, ← List.getLast?_eq_getElem?]
  unfold lastI
  rw [List.getLastD_eq_getLast?]
  cases e2 : r.getLast? with
  | none => exact absurd (List.getLast?_eq_none_iff.mp e2) h
  | some x => rfl
theorem row_len {r : List Int} {n : Int} {ds : List (Int × Int)} {m : Int} (h : rowB r n ds m = true) : 1 ≤ (r.length : Int) ∧ (r.length : Int) ≤ m := by
  unfold rowB at h
  simp only [Bool.and_eq_true, decide_eq_true_eq] at h
  exact ⟨h.1.1.1, h.1.1.2⟩
theorem doors_len {l : List (Int × Int)} {n : Int} (h : doorsB l n = true) : 1 ≤ (l.length : Int) ∧ (l.length : Int) ≤ 15 := by
  unfold doorsB at h
  simp only [Bool.and_eq_true, decide_eq_true_eq] at h
  exact ⟨h.1.1.1, h.1.1.2⟩
theorem p_is_house {h : HS} (H : HouseOk h) (S : List MO) : g_is_house_value [eH h] S = .ok (.bl true) S := by
  have dl := doors_len H.d
  have h3 : h.rounds.length < sizeLine := Nat.lt_of_le_of_lt H.r3 (by decide)
  have hr : ∀ r ∈ h.rounds, r.length < 1000000 := fun r hm => by
    have := row_len (H.rows r hm)
    omega
  have i1 : g_has_items [eH h, .int 3, .int 3] S = .ok (.bl true) S := p_has_items _ _ _ _
  have i2 : g_is_within [.int h.n, .int 2, .int 6] S = .ok (.bl true) S := by
    rw [p_is_within]
    simp [H.n2, H.n6]
  have i3 : g_are_doors [.tup (h.doors.map eP), .int h.n] S = .ok (.bl true) S := by
    rw [p_are_doors h.doors h.n (by omega), H.d]
  have i4 : g_has_items [.tup (h.rounds.map eR), .int 1, .int 3] S = .ok (.bl true) S := by
    have a := H.r1
    have b := H.r3
    rw [p_has_items]
    simp
    omega
  have q1 := comp_map (it := seqI (getv 3)) (t := .nm 4) (vs := [4]) (c := yesT) (e := callE g_is_row (consA (getv 4) (consA (getv 1) (consA (getv 2) (consA (litE (.int 6)) nilA)))))
    (sd := [.val (eH h), .val (.int h.n), .val (.tup (h.doors.map eP)), .val (.tup (h.rounds.map eR)), .un]) (S := S) h.rounds eR (fun b : Bool => .bl b) (fun r => some (rowB r h.n h.doors 6)) (by simp [itemsD]) h3 (fun r hm => by
      rw [turn_ap (sd' := [.val (eH h), .val (.int h.n), .val (.tup (h.doors.map eP)), .val (.tup (h.rounds.map eR)), .val (eR r)]) rfl]
      have this : g_is_row [eR r, .int h.n, .tup (h.doors.map eP), .int 6] S = _ := p_is_row r h.n h.doors 6 (hr r hm) S
      simp [this])
  have q2 := comp_map (it := seqI (getv 3)) (t := .nm 4) (vs := [4]) (c := yesT) (e := callE g_is_near (consA (getv 2) (consA (ixE (getb 4) (negE (litE (.int 1)))) (consA (ixE (getb 4) (litE (.int 0))) nilA))))
    (sd := [.val (eH h), .val (.int h.n), .val (.tup (h.doors.map eP)), .val (.tup (h.rounds.map eR)), .un]) (S := S) h.rounds eR (fun b : Bool => .bl b) (fun r => some (nearB h.doors (lastI r) (headI r))) (by simp [itemsD]) h3 (fun r hm => by
      have ne : r ≠ [] := fun z => by
        have := (row_len (H.rows r hm)).1
        rw [z] at this
        simp at this
      rw [turn_ap (sd' := [.val (eH h), .val (.int h.n), .val (.tup (h.doors.map eP)), .val (.tup (h.rounds.map eR)), .val (eR r)]) rfl]
      simp [ixR0 ne, ixRl ne, p_is_near])
  simp only [filterMap_some] at q1 q2
  have a1 : allD [D.lst (List.map ((fun b => D.bl b) ∘ fun r => rowB r h.n h.doors 6) h.rounds)] = some (.bl true) := by
    rw [allD_map, List.all_eq_true.mpr H.rows]
  have a2 : allD [D.lst (List.map ((fun b => D.bl b) ∘ fun r => nearB h.doors (lastI r) (headI r)) h.rounds)] = some (.bl true) := by
    rw [allD_map, List.all_eq_true.mpr H.ends]
  have pr := p_product_of h.rounds hr S
  have lp := H.prod
  have ag : asgT (.tp [.nm 1, .nm 2, .nm 3]) (eH h) [.val (eH h), .un, .un, .un, .un] = some [.val (eH h), .val (.int h.n), .val (.tup (h.doors.map eP)), .val (.tup (h.rounds.map eR)), .un] := rfl
  simp [g_is_house_value, F_is_house_value, sd0, i1, i2, i3, i4, ixH0, ixH1, q1, q2, a1, a2, pr, ag, lp, -asgT_tp]
theorem p_no_house (S : List MO) : g_is_house_value [.tup [.int 3, .tup [], .tup []]] S = .ok (.bl false) S := by
  have i1 : g_has_items [.tup [.int 3, .tup [], .tup []], .int 3, .int 3] S = .ok (.bl true) S := p_has_items _ _ _ _
  have i2 : g_is_within [.int 3, .int 2, .int 6] S = .ok (.bl true) S := by rw [p_is_within]; simp
  have i3 : g_are_doors [.tup [], .int 3] S = .ok (.bl false) S := p_are_doors [] 3 (by simp) S
  have x0 : ixD S (.tup [.int 3, .tup [], .tup []]) (.int 0) = some (.int 3) := rfl
  have x1 : ixD S (.tup [.int 3, .tup [], .tup []]) (.int 1) = some (.tup []) := rfl
  simp [g_is_house_value, F_is_house_value, sd0, i1, i2, i3, x0, x1]
/-- the room of a guard -/
def atB (row : List Int) (b t : Int) : Int := row.getD ((b + t) % (row.length : Int)).toNat 0
theorem ixR_mod {r : List Int} (h : r ≠ []) (x : Int) (S : List MO) : ixD S (eR r) (.int (x % (r.length : Int))) = some (.int (r.getD (x % (r.length : Int)).toNat 0)) := by
  have hl : 0 < (r.length : Int) := by
    cases r with
    | nil => exact absurd rfl h
    | cons a r => simp
  have h0 := Int.emod_nonneg x (by omega : (r.length : Int) ≠ 0)
  have h1 := Int.emod_lt_of_pos x hl
  have e : L2.ixN (List.map D.int r).length (x % (r.length : Int)) = some (x % (r.length : Int)).toNat := by
    unfold L2.ixN
    simp [h0]
    omega
  show L2.atI (List.map D.int r) (x % (r.length : Int)) = _
  unfold L2.atI
  rw [e]
  show (List.map D.int r)[(x % (r.length : Int)).toNat]? = _
  rw [List.getElem?_map, List.getD_eq_getElem?_getD]
  have hlt : (x % (r.length : Int)).toNat < r.length := by omega
  rw [List.getElem?_eq_getElem hlt]
  rfl
@[simp] theorem lenD_eR {r : List Int} : lenD [eR r] = some (.int r.length) := by simp [eR]
@[simp] theorem itemsD_eR {r : List Int} : itemsD (eR r) = some (r.map .int) := nrf rfl
@[simp] theorem itemsE_eR {r : List Int} : itemsE (eR r) = some (r.map .int) := nrf rfl
@[simp] theorem ixH0_ {h : HS} {S} : ixD S (eH h) (.int 0) = some (.int h.n) := nrf rfl
@[simp] theorem ixH1_ {h : HS} {S} : ixD S (eH h) (.int 1) = some (.tup (h.doors.map eP)) := nrf rfl
@[simp] theorem ixH2_ {h : HS} {S} : ixD S (eH h) (.int 2) = some (.tup (h.rounds.map eR)) := nrf rfl
@[simp] theorem zipM_eR_map {α : Type} {b : List Int} {l : List α} {f : α → D} {S} : zipM [eR b, .tup (l.map f)] S = .ok ((b.zip l).map fun p => .tup [.int p.1, f p.2]) S := by
  unfold eR
  rw [zipM_tup, zip_gen]
@[simp] theorem zipM_eR_eR {b c : List Int} {S} : zipM [eR b, eR c] S = .ok ((b.zip c).map eP) S := by
  unfold eR
  rw [zipM_tup, zip_ints]
theorem in_eR (l : List Int) (i : Int) : cmpD .In (.int i) (eR l) = some (.bl (decide (i ∈ l))) := in_ints l i
theorem in_lst_ints (l : List Int) (i : Int) : cmpD .In (.int i) (.lst (l.map .int)) = some (.bl (decide (i ∈ l))) := by
  have h1 : ok60 (.int i) = true := ok_int i 60
  have h2 : ok60 (.lst (l.map .int)) = true := by
    show okA (l.map .int) 59 = true
    exact ok_ints l 59
  have e : cmpD .In (.int i) (.lst (l.map .int)) = if ok60 (.int i) && ok60 (.lst (l.map .int)) then some (.bl ((l.map D.int).any fun z => eqD z (.int i))) else none := rfl
  rw [e, h1, h2, any_int]
  rfl
theorem notin_lst_ints (l : List Int) (i : Int) : cmpD .NotIn (.int i) (.lst (l.map .int)) = some (.bl (!decide (i ∈ l))) := by
  have h1 : ok60 (.int i) = true := ok_int i 60
  have h2 : ok60 (.lst (l.map .int)) = true := by
    show okA (l.map .int) 59 = true
    exact ok_ints l 59
  have e : cmpD .NotIn (.int i) (.lst (l.map .int)) = if ok60 (.int i) && ok60 (.lst (l.map .int)) then some (.bl (!((l.map D.int).any fun z => eqD z (.int i)))) else none := rfl
  rw [e, h1, h2, any_int]
  rfl
theorem in_lst_eP (l : List (Int × Int)) (p : Int × Int) : cmpD .In (eP p) (.lst (l.map eP)) = some (.bl (decide (p ∈ l))) := by
  have h1 : ok60 (eP p) = true := ok_eP p 59
  have h2 : ok60 (.lst (l.map eP)) = true := by
    show okA (l.map eP) 59 = true
    exact okA_map (fun x => ok_eP x 58) l
  have e : cmpD .In (eP p) (.lst (l.map eP)) = if ok60 (eP p) && ok60 (.lst (l.map eP)) then some (.bl ((l.map eP).any fun z => eqD z (eP p))) else none := rfl
  rw [e, h1, h2, any_eP]
  rfl
theorem p_need_house {v : D} {b : Bool} {S : List MO} (h : g_is_house_value [v] S = .ok (.bl b) S) : g_need_house [v] S = if b then .ok .non S else .exc ⟨0, none⟩ S := by
  cases b <;> simp [g_need_house, F_need_house, sd0, h, raiF]
theorem p_need_walk {hs : HS} {v : D} {b : Bool} {S : List MO} (h : g_is_row [v, .int hs.n, .tup (hs.doors.map eP), .int 100] S = .ok (.bl b) S) : g_need_walk [eH hs, v] S = if b then .ok .non S else .exc ⟨4, none⟩ S := by
  cases b <;> simp [g_need_walk, F_need_walk, sd0, h, raiF]
structure RowsOk (h : HS) : Prop where
  few : h.rounds.length ≤ 3
  row : ∀ r ∈ h.rounds, r ≠ [] ∧ r.length ≤ 6
theorem HouseOk.rowsOk {h : HS} (H : HouseOk h) : RowsOk h := ⟨H.r3, fun r hr => by
  have := row_len (H.rows r hr)
  refine ⟨fun z => ?_, by omega⟩
  rw [z] at this
  simp at this⟩
theorem zip_few {α β : Type} (b : List α) (l : List β) {n : Nat} (h : l.length ≤ n) : (b.zip l).length ≤ n := by
  simp only [List.length_zip]
  omega
theorem three_lt {α : Type} {l : List α} (h : l.length ≤ 3) : l.length < sizeLine := Nat.lt_of_le_of_lt h (by decide)
def roomsAt (h : HS) (b : List Int) (t : Int) : List Int := (b.zip h.rounds).map fun p => atB p.2 p.1 t
theorem map_ints {α : Type} (f : α → Int) (l : List α) : (l.map fun x => D.int (f x)) = (l.map f).map .int := by simp
theorem p_rooms_at {h : HS} (R : RowsOk h) (b : List Int) (t : Int) (S : List MO) : g_rooms_at [eH h, eR b, .int t] S = .ok (eR (roomsAt h b t)) S := by
  simp [g_rooms_at, F_rooms_at, sd0]
  rw [compF_map (b.zip h.rounds) (fun p => .tup [.int p.1, eR p.2]) (fun p => .int (atB p.2 p.1 t)) (by simp) (three_lt (zip_few _ _ R.few)) (fun p hp => by
    have hr := (R.row p.2 (List.of_mem_zip hp).2).1
    have hl : 0 < p.2.length := List.length_pos_iff.mpr hr
    simp [turnM_ap, hl, ixR_mod hr, atB])]
  simp [roomsAt, eR]
def oI : Option Int → D
  | none => .non
  | some i => .int i
def metB (h : HS) (b : List Int) (t : Int) (before : Option Int) (here : Int) : Bool :=
  decide (here ∈ roomsAt h b t) || match before with
    | none => false
    | some p => !decide (p = here) && decide ((here, p) ∈ (roomsAt h b (t - 1)).zip (roomsAt h b t))
theorem zipE_two {f g : EF} {sd : List SV} {S : List MO} {a b : List Int} (h1 : f sd S = .ok (eR a) S) (h2 : g sd S = .ok (eR b) S) : zipE (consA f (consA g nilA)) sd S = .ok (.lst ((a.zip b).map eP)) S := by
  unfold zipE
  rw [bind_bnd]
  simp only [consA_ap, h1, h2, bnd_ok, nilA_ap]
  show zipTM [.tup (a.map .int), .tup (b.map .int)] S = _
  show (pure (.lst (zipD (a.map .int) (b.map .int))) : M D) S = _
  rw [zip_ints]; rfl
theorem p_is_met {h : HS} (R : RowsOk h) (b : List Int) (t : Int) (before : Option Int) (here : Int) (S : List MO) : g_is_met [eH h, eR b, .int t, oI before, .int here] S = .ok (.bl (metB h b t before here)) S := by
  have hz : ∀ p : Int, zipE (consA (callE g_rooms_at (consA (getv 0) (consA (getv 1) (consA (opE subD (getb 2) (litE (.int 1))) nilA)))) (consA (getv 5) nilA)) [.val (eH h), .val (eR b), .val (.int t), .val (.int p), .val (.int here), .val (eR (roomsAt h b t))] S = .ok (.lst (((roomsAt h b (t - 1)).zip (roomsAt h b t)).map eP)) S := fun p =>
    zipE_two (by simp [p_rooms_at R]) (by simp)
  have hp : ∀ p : Int, (D.tup [.int here, .int p]) = eP (here, p) := fun p => rfl
  have two : 2 ≤ sizeLine := by decide
  cases before with
  | none =>
    by_cases h1 : here ∈ roomsAt h b t <;> simp [g_is_met, F_is_met, sd0, p_rooms_at R, in_eR, oI, metB, h1]
  | some p =>
    by_cases h1 : here ∈ roomsAt h b t
    · simp [g_is_met, F_is_met, sd0, p_rooms_at R, in_eR, oI, metB, h1]
    · by_cases h2 : p = here
      · simp [g_is_met, F_is_met, sd0, p_rooms_at R, in_eR, oI, metB, h1, h2, cmp_eq_int]
      · simp [g_is_met, F_is_met, sd0, p_rooms_at R, in_eR, oI, metB, h1, h2, cmp_eq_int, hz, two, hp, in_lst_eP]
theorem findSome_if {α β : Type} (p : α → Bool) (g : α → β) : ∀ l : List α, l.findSome? (fun x => if p x then some (g x) else none) = (l.find? p).map g
  | [] => rfl
  | x :: l => by
    rw [List.findSome?_cons, List.find?_cons]
    cases e : p x with
    | true => simp
    | false => simpa using findSome_if p g l
theorem num_gen {α : Type} (f : α → D) (d : α) : ∀ (n : Nat) (w : List α), numD n (w.map f) = (List.range w.length).map fun i => .tup [.int ((n + i : Nat) : Int), f (w.getD i d)]
  | _, [] => rfl
  | n, x :: w => by
    show D.tup [.int (n : Nat), f x] :: numD (n + 1) (w.map f) = _
    rw [num_gen f d (n + 1) w, List.length_cons, List.range_succ_eq_map, List.map_cons, List.map_map]
    simp
    intro i _
    omega
theorem num_ints (w : List Int) : numD 0 (w.map .int) = (List.range w.length).map fun i => .tup [.int (i : Int), .int (w.getD i 0)] := by
  rw [num_gen D.int 0 0 w]
  simp
theorem ixR_nat {r : List Int} {i : Nat} (h : i < r.length) (S : List MO) : ixD S (eR r) (.int (i : Int)) = some (.int (r.getD i 0)) := by
  have e : L2.ixN (List.map D.int r).length (i : Int) = some i := by
    unfold L2.ixN
    simp
    omega
  show L2.atI (List.map D.int r) (i : Int) = _
  unfold L2.atI
  rw [e]
  show (List.map D.int r)[i]? = _
  rw [List.getElem?_map, List.getD_eq_getElem?_getD, List.getElem?_eq_getElem h]
  rfl
/-- the room before -/
def prevB (w : List Int) (t : Nat) : Option Int := if 0 < t then some (w.getD (t - 1) 0) else none
def firstMet (h : HS) (b w : List Int) : Option Nat := (List.range w.length).find? fun t => metB h b t (prevB w t) (w.getD t 0)
theorem p_first_met {h : HS} (R : RowsOk h) (b w : List Int) (hw : w.length < 1000000) (S : List MO) : g_first_met [eH h, eR b, eR w] S = .ok (oI ((firstMet h b w).map Int.ofNat)) S := by
  have hf := for_find (t := .tp [.nm 3, .nm 4]) (S := S) (en := fun i : Nat => D.tup [.int (i : Int), .int (w.getD i 0)]) (body := (seqF (ofM (valT (callE g_is_met (consA (getv 0) (consA (getv 1) (consA (getv 3) (consA (iteE (valT (opE (cmpD .Gt) (getb 3) (litE (.int 0)))) (ixE (getb 2) (opE subD (getb 3) (litE (.int 1)))) (litE .non)) (consA (getv 4) nilA))))))) (ifF (seqF (ofM (getv 3) retF) nxF) nxF)) nxF))
    (fun sd => ∃ x y, sd = [.val (eH h), .val (eR b), .val (eR w), x, y]) (fun t : Nat => if metB h b t (prevB w t) (w.getD t 0) then some (.int (t : Int)) else none) (List.range w.length) (fun t ht sd ⟨x, y, e⟩ => by
      subst e
      refine ⟨[.val (eH h), .val (eR b), .val (eR w), .val (.int (t : Int)), .val (.int (w.getD t 0))], by simp, ?_⟩
      have hb : (seqF (ofM (valT (callE g_is_met (consA (getv 0) (consA (getv 1) (consA (getv 3) (consA (iteE (valT (opE (cmpD .Gt) (getb 3) (litE (.int 0)))) (ixE (getb 2) (opE subD (getb 3) (litE (.int 1)))) (litE .non)) (consA (getv 4) nilA))))))) (ifF (seqF (ofM (getv 3) retF) nxF) nxF)) nxF) [.val (eH h), .val (eR b), .val (eR w), .val (.int (t : Int)), .val (.int (w.getD t 0))] S
          = if metB h b t (prevB w t) (w.getD t 0) then .rt (.int (t : Int)) S else .nx [.val (eH h), .val (eR b), .val (eR w), .val (.int (t : Int)), .val (.int (w.getD t 0))] S := by
        have hm := p_is_met R b t (prevB w t) (w.getD t 0) S
        have hlt : t < w.length := List.mem_range.mp ht
        by_cases h0 : 0 < t
        · have hx : ixD S (eR w) (.int ((t : Int) - 1)) = some (.int (w.getD (t - 1) 0)) := by
            have e : ((t : Int) - 1) = ((t - 1 : Nat) : Int) := by omega
            rw [e, ixR_nat (by omega)]
          have h1 : (0 : Int) < (t : Int) := by omega
          have hp : oI (prevB w t) = .int (w.getD (t - 1) 0) := by simp [prevB, h0, oI]
          rw [hp] at hm
          cases hq : metB h b t (prevB w t) (w.getD t 0) <;> rw [hq] at hm <;> simp [h0, h1, hx, hm, -List.getD_eq_getElem?_getD]
        · have h1 : ¬ (0 : Int) < (t : Int) := by omega
          have hp : oI (prevB w t) = .non := by simp [prevB, h0, oI]
          rw [hp] at hm
          cases hq : metB h b t (prevB w t) (w.getD t 0) <;> rw [hq] at hm <;> simp [h0, h1, hm, -List.getD_eq_getElem?_getD]
      rw [hb]
      cases hq : metB h b t (prevB w t) (w.getD t 0) with
      | true => simp
      | false => exact ⟨_, ⟨_, _, rfl⟩, if_neg (by simp)⟩) [.val (eH h), .val (eR b), .val (eR w), .un, .un] ⟨_, _, rfl⟩
  rw [findSome_if] at hf
  have ee : (List.range w.length).find? (fun t : Nat => metB h b t (prevB w t) (w.getD t 0)) = firstMet h b w := rfl
  rw [ee] at hf
  cases e : firstMet h b w with
  | none =>
    rw [e] at hf
    obtain ⟨sd', ⟨x, y, rfl⟩, hf⟩ := hf
    simp [g_first_met, F_first_met, sd0, num_ints, hf, oI, -List.getD_eq_getElem?_getD]
  | some t =>
    rw [e] at hf
    simp only [Option.map_some] at hf
    simp [g_first_met, F_first_met, sd0, num_ints, hf, oI, -List.getD_eq_getElem?_getD]
def nextDoor (h : HS) (room : Int) : List Int := ((List.range h.n.toNat).map fun i : Nat => (i : Int)).filter fun o => !decide (o = room) && nearB h.doors room o
def seenB (h : HS) (b : List Int) (t : Int) (room : Int) : Int × List Int := (room, (nextDoor h room).filter fun o => decide (o ∈ roomsAt h b t))
def eG (p : Int × List Int) : D := .tup [.int p.1, eR p.2]
def DeckAt (S : List MO) (n : Nat) (c : Nat) : Prop := ∃ a b t : Int, S[n]? = some (.lst [.int a, .int b, .int t]) ∧ 0 ≤ a ∧ 0 ≤ b ∧ b < 2147483648 ∧ 0 ≤ t ∧ t ≤ c
/-- but for the deck all stays -/
structure Drawn (n : Nat) (c : Nat) (S S' : List MO) : Prop where
  deck : DeckAt S' n c
  len : S'.length = S.length
  same : ∀ j, j ≠ n → S'[j]? = S[j]?
theorem DeckAt.mono {S : List MO} {n c c' : Nat} (h : DeckAt S n c) (hc : c ≤ c') : DeckAt S n c' := by
  obtain ⟨a, b, t, h1, h2, h3, h4, h5, h6⟩ := h
  exact ⟨a, b, t, h1, h2, h3, h4, h5, by omega⟩
theorem Drawn.mono {S S' : List MO} {n c c' : Nat} (h : Drawn n c S S') (hc : c ≤ c') : Drawn n c' S S' := ⟨h.deck.mono hc, h.len, h.same⟩
theorem Drawn.trans {n c c' : Nat} {S S1 S2 : List MO} (a : Drawn n c S S1) (b : Drawn n c' S1 S2) : Drawn n c' S S2 :=
  ⟨b.deck, b.len.trans a.len, fun j hj => (b.same j hj).trans (a.same j hj)⟩
theorem Drawn.refl {n c : Nat} {S : List MO} (h : DeckAt S n c) : Drawn n c S S := ⟨h, rfl, fun _ _ => rfl⟩
theorem ix_loc {S : List MO} {n : Nat} {ds : List D} (h : S[n]? = some (.lst ds)) (i : Int) : ixD S (.loc n) (.int i) = L2.atI ds i := by
  unfold ixD
  simp [h]
theorem drawn_set {S : List MO} {n c : Nat} {a b t : Int} (hn : n < S.length) (h2 : 0 ≤ a) (h3 : 0 ≤ b) (h4 : b < 2147483648) (h5 : 0 ≤ t) (h6 : t ≤ c) : Drawn n c S (S.set n (.lst [.int a, .int b, .int t])) :=
  ⟨⟨a, b, t, by simp [hn], h2, h3, h4, h5, h6⟩, by simp, fun j hj => by rw [List.getElem?_set_ne (Ne.symm hj)]⟩
theorem atI0 {a : D} {l : List D} : L2.atI (a :: l) 0 = some a := by simp [L2.atI, L2.ixN]
theorem atI1 {a b : D} {l : List D} : L2.atI (a :: b :: l) 1 = some b := by
  have h : (1 : Int) < (l.length : Int) + 1 + 1 := by omega
  simp [L2.atI, L2.ixN, h]
theorem atI2 {a b c : D} {l : List D} : L2.atI (a :: b :: c :: l) 2 = some c := by
  have h : (2 : Int) < (l.length : Int) + 1 + 1 + 1 := by omega
  simp [L2.atI, L2.ixN, h]
theorem p_pick {S : List MO} {n c : Nat} (d : DeckAt S n c) (hc : c ≤ 1000000000) {m : Int} (h0 : 0 < m) (hm : m < 1000000000) (S0 := S) :
    ∃ k S', g__law_pick [.loc n, .int m] S = .ok (.int k) S' ∧ 0 ≤ k ∧ k < m ∧ Drawn n (c + 1) S S' := by
  obtain ⟨a, b, t, hS, ha, hb, hb', ht, ht'⟩ := d
  have hn : n < S.length := (List.getElem?_eq_some_iff.mp hS).1
  have x0 := ix_loc hS 0
  have x1 := ix_loc hS 1
  have x2 := ix_loc hS 2
  rw [atI0] at x0
  rw [atI1] at x1
  rw [atI2] at x2
  have m0 : 0 < m ∧ m < 1073741824 := by omega
  by_cases h1 : 1 < a
  · refine ⟨a % m, S.set n (.lst [.int (a / m), .int b, .int t]), ?_, Int.emod_nonneg _ (by omega), Int.emod_lt_of_pos _ h0, drawn_set hn (Int.ediv_nonneg ha (by omega)) hb hb' ht (by omega)⟩
    simp [g__law_pick, F__law_pick, sd0, x0, x1, x2, h1, h0, m0, lputF, hS, L2.ixN]
  · have hS' : (S.set n (.lst [.int a, .int b, .int (t + 1)]))[n]? = some (.lst [.int a, .int b, .int (t + 1)]) := by simp [hn]
    have y0 := ix_loc hS' 0
    have y1 := ix_loc hS' 1
    have y2 := ix_loc hS' 2
    rw [atI0] at y0
    rw [atI1] at y1
    rw [atI2] at y2
    have p1 : ∀ i : Int, 0 ≤ i → i < 2 ^ 64 → powD (.int i) (.int 5) = some (.int (i ^ 5)) := fun i h h' => by
      show (if 0 ≤ (5 : Int) ∧ (5 : Int) ≤ 1000000 ∧ i.natAbs < 2 ^ 64 then some (D.int (i ^ (5 : Int).toNat)) else none) = _
      rw [if_pos ⟨by omega, by omega, by omega⟩]
      rfl
    have p2 : ∀ i : Int, 0 ≤ i → i < 2 ^ 64 → powD (.int i) (.int 3) = some (.int (i ^ 3)) := fun i h h' => by
      show (if 0 ≤ (3 : Int) ∧ (3 : Int) ≤ 1000000 ∧ i.natAbs < 2 ^ 64 then some (D.int (i ^ (3 : Int).toNat)) else none) = _
      rw [if_pos ⟨by omega, by omega, by omega⟩]
      rfl
    have e1 := p1 (b + 15485867 * (t + 1)) (by omega) (by omega)
    have mu : ∀ i j : Int, 0 ≤ i → i < 2 ^ 64 → mulD (.int i) (.int j) = some (.int (i * j)) := fun i j h h' => by
      rw [mulD_int, if_pos (.inl ⟨by omega, h'⟩)]
    have e2 := mu 15485867 (t + 1) (by omega) (by omega)
    have e3 := mu 7919 (t + 1) (by omega) (by omega)
    have z1 : 0 ≤ (b + 15485867 * (t + 1)) ^ 5 % 2147483647 := Int.emod_nonneg _ (by omega)
    have z2 : (b + 15485867 * (t + 1)) ^ 5 % 2147483647 < 2147483647 := Int.emod_lt_of_pos _ (by omega)
    have e4 := p2 ((b + 15485867 * (t + 1)) ^ 5 % 2147483647 + 7919 * (t + 1)) (by omega) (by omega)
    refine ⟨(((b + 15485867 * (t + 1)) ^ 5 % 2147483647 + 7919 * (t + 1)) ^ 3 % 2147483629 / 32) % m, S.set n (.lst [.int a, .int b, .int (t + 1)]), ?_, Int.emod_nonneg _ (by omega), Int.emod_lt_of_pos _ h0, drawn_set hn ha hb hb' (by omega) (by omega)⟩
    simp [g__law_pick, F__law_pick, sd0, x0, x1, x2, h1, h0, m0, lputF, hS, L2.ixN, y0, y1, y2, e1, e2, e3, e4]
theorem ix_lst_nat {ds : List D} {k : Int} (h0 : 0 ≤ k) (h1 : k < ds.length) (S : List MO) : ∃ d, ds[k.toNat]? = some d ∧ ixD S (.lst ds) (.int k) = some d := by
  have e : L2.ixN ds.length k = some k.toNat := by
    unfold L2.ixN
    simp [h0]
    omega
  refine ⟨ds[k.toNat]'(by omega), List.getElem?_eq_getElem _, ?_⟩
  show L2.atI ds k = _
  unfold L2.atI
  rw [e]
  exact List.getElem?_eq_getElem _
theorem p_one {S : List MO} {n c : Nat} (d : DeckAt S n c) (hc : c ≤ 1000000000) {ds : List D} (h0 : ds ≠ []) (hl : ds.length < 100000) :
    ∃ x ∈ ds, ∃ S', g__law_one [.loc n, .lst ds] S = .ok x S' ∧ Drawn n (c + 1) S S' := by
  have hp : 0 < ds.length := List.length_pos_iff.mpr h0
  obtain ⟨k, S', e, k0, k1, r⟩ := p_pick (m := (ds.length : Int)) d hc (by omega) (by omega)
  obtain ⟨x, hx, ex⟩ := ix_lst_nat (ds := ds) k0 k1 S'
  refine ⟨x, List.mem_of_getElem? hx, S', ?_, r⟩
  simp [g__law_one, F__law_one, sd0, e, ex]
theorem nextDoor_len (h : HS) (h6 : h.n ≤ 6) (room : Int) : (nextDoor h room).length ≤ 6 := by
  unfold nextDoor
  refine Nat.le_trans (List.length_filter_le _ _) ?_
  simp
  omega
theorem lt_line {n : Nat} (h : n ≤ 1000000) : n < sizeLine := Nat.lt_of_le_of_lt h (by decide)
theorem le_line {n : Nat} (h : n ≤ 1000000) : n ≤ sizeLine := Nat.le_of_lt (lt_line h)
def sortI : D → Int
  | .bl _ => 1
  | .int _ => 2
  | .str _ => 3
  | .lst _ => 4
  | .tup _ => 5
  | _ => 6
def plainD : D → Bool
  | .non | .bl _ | .int _ | .str _ | .lst _ | .tup _ => true
  | _ => false
theorem p_sort {d : D} (h : plainD d = true) (S : List MO) : g__law_sort [d] S = .ok (.int (sortI d)) S := by
  cases d <;> first | (simp [plainD] at h; done) | simp [g__law_sort, F__law_sort, sd0, sortI]
def sameOk : Nat → D → Prop
  | 0, _ => False
  | n + 1, .lst ds => ds.length < sizeLine ∧ ∀ d ∈ ds, sameOk n d
  | n + 1, .tup ds => ds.length < sizeLine ∧ ∀ d ∈ ds, sameOk n d
  | _ + 1, .non => True
  | _ + 1, .bl _ => True
  | _ + 1, .int _ => True
  | _ + 1, .str x => PyData.strOk x = true
  | _ + 1, _ => False
theorem ok60_str (x : Str) : ok60 (.str x) = true ∨ ok60 (.str x) = false := by cases ok60 (.str x) <;> simp
theorem ixs_lst {ds : List D} {i : Nat} (h : i < ds.length) (S : List MO) : ixD S (.lst ds) (.int (i : Int)) = some (ds.getD i .non) := by
  have e : L2.ixN ds.length (i : Int) = some i := by
    unfold L2.ixN
    simp
    omega
  show L2.atI ds (i : Int) = _
  unfold L2.atI
  rw [e]
  show ds[i]? = _
  rw [List.getD_eq_getElem?_getD, List.getElem?_eq_getElem h]
  rfl
theorem ixs_tup {ds : List D} {i : Nat} (h : i < ds.length) (S : List MO) : ixD S (.tup ds) (.int (i : Int)) = some (ds.getD i .non) := ixs_lst h S
theorem num_ds (ds : List D) : numD 0 ds = (List.range ds.length).map fun i => .tup [.int (i : Int), ds.getD i .non] := by
  have q := num_gen (fun d : D => d) .non 0 ds
  simpa using q
theorem p_same : ∀ (n : Nat) (d : D) (S : List MO), sameOk n d → g__law_same n [d, d] S = .ok (.bl true) S
  | 0, _, _, h => h.elim
  | n + 1, d, S, h => by
    have ne_int : ∀ i : Int, cmpD .NotEq (.int i) (.int i) = some (.bl false) := fun i => by rw [cmp_ne_int]; simp
    have zero : 0 ≤ sizeLine := Nat.zero_le _
    cases d with
    | non =>
      have e : cmpD .Eq .non .non = some (.bl true) := cmp_eq_same (by simp [okD]) (by simp [eqD, D.py, PyData.eqv])
      simp [g__law_same, F__law_same, sd0, p_sort (d := .non) rfl, sortI, ne_int, e]
    | bl b =>
      have e : cmpD .Eq (.bl b) (.bl b) = some (.bl true) := cmp_eq_same (by simp [okD]) (by simp [eqD, D.py, PyData.eqv])
      simp [g__law_same, F__law_same, sd0, p_sort (d := .bl b) rfl, sortI, ne_int, e]
    | int i =>
      have e : cmpD .Eq (.int i) (.int i) = some (.bl true) := by rw [cmp_eq_int]; simp
      simp [g__law_same, F__law_same, sd0, p_sort (d := .int i) rfl, sortI, ne_int, e]
    | str x =>
      have e : cmpD .Eq (.str x) (.str x) = some (.bl true) := cmp_eq_same (by have hx : PyData.strOk x = true := h; simpa [okD] using hx) (by simp [eqD, D.py, PyData.eqv])
      simp [g__law_same, F__law_same, sd0, p_sort (d := .str x) rfl, sortI, ne_int, e]
    | lst ds =>
      have hr : ∀ i ∈ List.range ds.length, g__law_same n [ds.getD i .non, ds.getD i .non] S = .ok (.bl true) S := fun i hi => by
        have hl := List.mem_range.mp hi
        refine p_same n _ S (h.2 _ ?_)
        rw [List.getD_eq_getElem?_getD, List.getElem?_eq_getElem hl]
        exact List.getElem_mem hl
      simp [g__law_same, F__law_same, sd0, p_sort (d := .lst ds) rfl, sortI, ne_int]
      rw [compF_fil (List.range ds.length) (fun i : Nat => .tup [.int (i : Int), ds.getD i .non]) (fun _ => false) (fun i : Nat => .int (i : Int)) (by simp [num_ds, -List.getD_eq_getElem?_getD]) (by simpa using h.1) (fun i hi => by
        simp [turnM_ap, ixs_lst (List.mem_range.mp hi), hr i hi, -List.getD_eq_getElem?_getD])]
      simp
    | tup ds =>
      have hr : ∀ i ∈ List.range ds.length, g__law_same n [ds.getD i .non, ds.getD i .non] S = .ok (.bl true) S := fun i hi => by
        have hl := List.mem_range.mp hi
        refine p_same n _ S (h.2 _ ?_)
        rw [List.getD_eq_getElem?_getD, List.getElem?_eq_getElem hl]
        exact List.getElem_mem hl
      simp [g__law_same, F__law_same, sd0, p_sort (d := .tup ds) rfl, sortI, ne_int]
      rw [compF_fil (List.range ds.length) (fun i : Nat => .tup [.int (i : Int), ds.getD i .non]) (fun _ => false) (fun i : Nat => .int (i : Int)) (by simp [num_ds, -List.getD_eq_getElem?_getD]) (by simpa using h.1) (fun i hi => by
        simp [turnM_ap, ixs_tup (List.mem_range.mp hi), hr i hi, -List.getD_eq_getElem?_getD])]
      simp
    | dct _ _ => exact h.elim
    | fn _ => exact h.elim
    | loc _ => exact h.elim
theorem sort_ints {l : List Int} (hl : l.length ≤ sizeLine) : sortedD [.lst (l.map .int)] = some (.lst ((l.mergeSort fun a b => decide (a ≤ b)).map .int)) := by
  have o : sortOk (l.map .int) = true := by
    unfold sortOk
    simp [ok_int, D.py, PySem.W.alike, notNT, hl, isTc]
  have e : sortL (l.map D.int) = (l.mergeSort fun a b => decide (a ≤ b)).map .int := by
    unfold sortL
    symm
    refine List.map_mergeSort fun a _ b _ => ?_
    have q : PySem.W.dataLe false D.py (D.int a) (D.int b) = PySem.W.dataLe false (fun i : Int => .int (id i)) a b := rfl
    rw [q, PySem.W.dataLe_int]; rfl
  show (if sortOk (l.map .int) then some (D.lst (sortL (l.map .int))) else none) = _
  rw [o, e]; rfl
def byB (doors : List (Int × Int)) (room : Int) : List Int := ((doors.filter fun p => decide (p.2 = room)).map (·.1) ++ (doors.filter fun p => decide (p.1 = room)).map (·.2)).mergeSort fun a b => decide (a ≤ b)
@[simp] theorem asgT_eP {ts : List Tg} {p : Int × Int} {sd : List SV} : asgT (.tp ts) (eP p) sd = if 2 = ts.length then asgA ts [.int p.1, .int p.2] sd else none := nrf rfl
theorem p_by {hd : D} {doors : List (Int × Int)} (x1 : ∀ S, ixD S hd (.int 1) = some (.tup (doors.map eP))) (hl : doors.length ≤ 1000) (room : Int) (S : List MO) : g__law_by [hd, .int room] S = .ok (.lst ((byB doors room).map .int)) S := by
  have la : ((doors.filter fun p => decide (p.2 = room)).map (·.1)).length ≤ 1000 := by
    rw [List.length_map]; exact Nat.le_trans (List.length_filter_le _ _) hl
  have lb : ((doors.filter fun p => decide (p.1 = room)).map (·.2)).length ≤ 1000 := by
    rw [List.length_map]; exact Nat.le_trans (List.length_filter_le _ _) hl
  simp [g__law_by, F__law_by, sd0, x1]
  rw [compF_fil2 doors eP (fun p => decide (p.2 = room)) (·.1) .int (by simp [x1]) (lt_line (by omega)) (fun p _ => by
    by_cases e : p.2 = room <;> simp [turnM_ap, cmp_eq_int, e])]
  simp only [bnd_ok, stm_ok, setF_ap, sbnd_nx, List.set_cons_succ, List.set_cons_zero, seqF_ap, ofM_ap, biE_ap, consA_ap, opE_ap, getb_ap, List.getElem?_cons_succ, List.getElem?_cons_zero, slotB_val, frsE_ap]
  rw [compF_fil2 doors eP (fun p => decide (p.1 = room)) (·.2) .int (by simp [x1]) (lt_line (by omega)) (fun p _ => by
    by_cases e : p.1 = room <;> simp [turnM_ap, cmp_eq_int, e])]
  rw [bnd_ok, bnd_ok, addD_lst (by simp only [List.length_map] at la lb ⊢; exact le_line (by omega)), ← List.map_append]
  simp only [liftR_some, bnd_ok, nilA_ap]
  rw [sort_ints (by rw [List.length_append]; exact le_line (by omega))]
  rfl
theorem p_there {h : HS} (R : RowsOk h) (b : List Int) (t : Int) (S : List MO) : g__law_there [eH h, eR b, .int t] S = .ok (.lst ((roomsAt h b t).map .int)) S := by
  simp [g__law_there, F__law_there, sd0]
  rw [compF_map (b.zip h.rounds) (fun p => .tup [.int p.1, eR p.2]) (fun p => .int (atB p.2 p.1 t)) (by simp) (three_lt (zip_few _ _ R.few)) (fun p hp => by
    have hr := (R.row p.2 (List.of_mem_zip hp).2).1
    have hl : 0 < p.2.length := List.length_pos_iff.mpr hr
    simp [turnM_ap, hl, ixR_mod hr, atB])]
  simp [roomsAt]
theorem asc_unique : ∀ {l m : List Int}, l.Pairwise (· < ·) → m.Pairwise (· < ·) → (∀ x, x ∈ l ↔ x ∈ m) → l = m
  | [], [], _, _, _ => rfl
  | [], y :: m, _, _, h => absurd ((h y).mpr (List.mem_cons_self ..)) (by simp)
  | x :: l, [], _, _, h => absurd ((h x).mp (List.mem_cons_self ..)) (by simp)
  | x :: l, y :: m, hl, hm, h => by
    rw [List.pairwise_cons] at hl hm
    have e : x = y := by
      have h1 := (h x).mp (List.mem_cons_self ..)
      have h2 := (h y).mpr (List.mem_cons_self ..)
      rcases List.mem_cons.mp h1 with q | q
      · exact q
      · rcases List.mem_cons.mp h2 with r | r
        · exact r.symm
        · have a := hm.1 x q
          have b := hl.1 y r
          omega
    subst e
    congr 1
    refine asc_unique hl.2 hm.2 fun z => ⟨fun hz => ?_, fun hz => ?_⟩
    · rcases List.mem_cons.mp ((h z).mp (List.mem_cons_of_mem _ hz)) with q | q
      · have := hl.1 z hz
        omega
      · exact q
    · rcases List.mem_cons.mp ((h z).mpr (List.mem_cons_of_mem _ hz)) with q | q
      · have := hm.1 z hz
        omega
      · exact q
theorem ltP_trans {p q r : Int × Int} (h : ltP p q = true) (h' : ltP q r = true) : ltP p r = true := by
  unfold ltP at *
  simp only [decide_eq_true_eq] at *
  omega
theorem asc_pair : ∀ {l : List (Int × Int)}, ascB l = true → l.Pairwise (fun p q => ltP p q = true)
  | [], _ => .nil
  | [_], _ => by simp
  | p :: q :: l, h => by
    have h1 : ltP p q = true ∧ ascB (q :: l) = true := by
      unfold ascB at *
      simp only [List.tail_cons, List.zip_cons_cons, List.all_cons, Bool.and_eq_true] at h
      exact ⟨h.1, by simpa using h.2⟩
    have ih := asc_pair h1.2
    refine List.pairwise_cons.mpr ⟨fun r hr => ?_, ih⟩
    rcases List.mem_cons.mp hr with e | hr
    · rw [e]; exact h1.1
    · exact ltP_trans h1.1 ((List.pairwise_cons.mp ih).1 r hr)
/-- doors that are in order -/
structure DoorsOk (l : List (Int × Int)) (n : Int) : Prop where
  few : l.length ≤ 15
  inr : ∀ p ∈ l, 0 ≤ p.1 ∧ p.1 < p.2 ∧ p.2 < n
  asc : l.Pairwise (fun p q => ltP p q = true)
theorem doorsOk {l : List (Int × Int)} {n : Int} (h : doorsB l n = true) : DoorsOk l n := by
  unfold doorsB at h
  simp only [Bool.and_eq_true, decide_eq_true_eq, List.all_eq_true] at h
  refine ⟨by omega, fun p hp => ?_, asc_pair h.2⟩
  have := h.1.2 p hp
  unfold doorB inB at this
  simp only [Bool.and_eq_true, decide_eq_true_eq] at this
  omega
theorem sort_asc {l : List Int} (h : l.Pairwise (· < ·)) : (l.mergeSort fun a b => decide (a ≤ b)) = l := by
  refine List.mergeSort_of_pairwise (h.imp fun {a b} hab => ?_)
  simp
  omega
theorem by_eq {l : List (Int × Int)} {n : Int} (d : DoorsOk l n) (room : Int) : byB l room = ((l.filter fun p => decide (p.2 = room)).map (·.1) ++ (l.filter fun p => decide (p.1 = room)).map (·.2)) := by
  refine sort_asc (List.pairwise_append.mpr ⟨?_, ?_, ?_⟩)
  · rw [List.pairwise_map]
    refine List.Pairwise.imp_of_mem ?_ (d.asc.filter _)
    intro p q hp hq h
    have h1 := (List.mem_filter.mp hp).2
    have h2 := (List.mem_filter.mp hq).2
    unfold ltP at h
    simp only [decide_eq_true_eq] at *
    omega
  · rw [List.pairwise_map]
    refine List.Pairwise.imp_of_mem ?_ (d.asc.filter _)
    intro p q hp hq h
    have h1 := (List.mem_filter.mp hp).2
    have h2 := (List.mem_filter.mp hq).2
    unfold ltP at h
    simp only [decide_eq_true_eq] at *
    omega
  · intro x hx y hy
    obtain ⟨p, hp, rfl⟩ := List.mem_map.mp hx
    obtain ⟨q, hq, rfl⟩ := List.mem_map.mp hy
    have h1 := List.mem_filter.mp hp
    have h2 := List.mem_filter.mp hq
    have i1 := d.inr p h1.1
    have i2 := d.inr q h2.1
    simp only [decide_eq_true_eq] at *
    omega
theorem by_asc {l : List (Int × Int)} {n : Int} (d : DoorsOk l n) (room : Int) : (byB l room).Pairwise (· < ·) := by
  rw [by_eq d]
  refine List.pairwise_append.mpr ⟨?_, ?_, ?_⟩
  · rw [List.pairwise_map]
    refine List.Pairwise.imp_of_mem ?_ (d.asc.filter _)
    intro p q hp hq h
    have h1 := (List.mem_filter.mp hp).2
    have h2 := (List.mem_filter.mp hq).2
    unfold ltP at h
    simp only [decide_eq_true_eq] at *
    omega
  · rw [List.pairwise_map]
    refine List.Pairwise.imp_of_mem ?_ (d.asc.filter _)
    intro p q hp hq h
    have h1 := (List.mem_filter.mp hp).2
    have h2 := (List.mem_filter.mp hq).2
    unfold ltP at h
    simp only [decide_eq_true_eq] at *
    omega
  · intro x hx y hy
    obtain ⟨p, hp, rfl⟩ := List.mem_map.mp hx
    obtain ⟨q, hq, rfl⟩ := List.mem_map.mp hy
    have h1 := List.mem_filter.mp hp
    have h2 := List.mem_filter.mp hq
    have i1 := d.inr p h1.1
    have i2 := d.inr q h2.1
    simp only [decide_eq_true_eq] at *
    omega
theorem mem_by {l : List (Int × Int)} (room x : Int) : x ∈ byB l room ↔ (x, room) ∈ l ∨ (room, x) ∈ l := by
  unfold byB
  rw [List.mem_mergeSort, List.mem_append, List.mem_map, List.mem_map]
  constructor
  · rintro (⟨p, hp, rfl⟩ | ⟨p, hp, rfl⟩)
    · have h := List.mem_filter.mp hp
      simp only [decide_eq_true_eq] at h
      obtain ⟨a, b⟩ := p
      left
      rw [← h.2]; exact h.1
    · have h := List.mem_filter.mp hp
      simp only [decide_eq_true_eq] at h
      obtain ⟨a, b⟩ := p
      right
      rw [← h.2]; exact h.1
  · rintro (h | h)
    · exact .inl ⟨_, List.mem_filter.mpr ⟨h, by simp⟩, rfl⟩
    · exact .inr ⟨_, List.mem_filter.mpr ⟨h, by simp⟩, rfl⟩
theorem near_iff {l : List (Int × Int)} {n : Int} (d : DoorsOk l n) (a b : Int) : nearB l a b = true ↔ a = b ∨ (a, b) ∈ l ∨ (b, a) ∈ l := by
  unfold nearB
  simp only [Bool.or_eq_true, decide_eq_true_eq]
  by_cases e : a = b
  · simp [e]
  · by_cases h : b < a
    · have h' : ¬ a < b := by omega
      simp only [mn, mx, h, h', if_true, if_false, e, false_or]
      constructor
      · exact fun z => .inr z
      · rintro (z | z)
        · have := d.inr _ z
          simp only at this
          omega
        · exact z
    · have h' : a < b := by omega
      simp only [mn, mx, h, h', if_true, if_false, e, false_or]
      constructor
      · exact fun z => .inl z
      · rintro (z | z)
        · exact z
        · have := d.inr _ z
          simp only at this
          omega
theorem range_asc (n : Nat) : ((List.range n).map fun i : Nat => (i : Int)).Pairwise (· < ·) := by
  rw [List.pairwise_map]
  refine List.Pairwise.imp ?_ List.pairwise_lt_range
  intro a b h
  omega
theorem nextDoor_by {h : HS} (d : DoorsOk h.doors h.n) (room : Int) : nextDoor h room = byB h.doors room := by
  refine asc_unique ?_ (by_asc d room) fun x => ?_
  · exact List.Pairwise.filter _ (range_asc _)
  · unfold nextDoor
    rw [List.mem_filter, mem_by, List.mem_map]
    simp only [Bool.and_eq_true, Bool.not_eq_true', decide_eq_false_iff_not, near_iff d, List.mem_range]
    constructor
    · rintro ⟨_, h1, h2⟩
      rcases h2 with h2 | h2 | h2
      · exact absurd h2.symm h1
      · exact .inr h2
      · exact .inl h2
    · intro z
      have hx : 0 ≤ x ∧ x < h.n ∧ x ≠ room := by
        rcases z with z | z <;> have := d.inr _ z <;> simp only at this <;> omega
      refine ⟨⟨x.toNat, by omega, by omega⟩, hx.2.2, ?_⟩
      rcases z with z | z
      · exact .inr (.inr z)
      · exact .inr (.inl z)
theorem ixL_nat {r : List Int} {i : Nat} (h : i < r.length) (S : List MO) : ixD S (.lst (r.map .int)) (.int (i : Int)) = some (.int (r.getD i 0)) := ixR_nat h S
theorem zip_any : ∀ {a b : List Int} (x y : Int), a.length = b.length → decide ((x, y) ∈ a.zip b) = (List.range b.length).any fun i => decide (a.getD i 0 = x) && decide (b.getD i 0 = y)
  | [], [], _, _, _ => rfl
  | [], _ :: _, _, _, h => by simp at h
  | _ :: _, [], _, _, h => by simp at h
  | a :: as, b :: bs, x, y, h => by
    have ih := zip_any (a := as) (b := bs) x y (by simpa using h)
    rw [List.length_cons, List.range_succ_eq_map, List.any_cons, List.any_map]
    have e : ((fun i => decide ((a :: as).getD i 0 = x) && decide ((b :: bs).getD i 0 = y)) ∘ Nat.succ) = fun i => decide (as.getD i 0 = x) && decide (bs.getD i 0 = y) := by
      funext i
      simp
    rw [e, ← ih, List.zip_cons_cons]
    have m : ((x, y) ∈ (a, b) :: as.zip bs) ↔ (a = x ∧ b = y) ∨ (x, y) ∈ as.zip bs := by
      rw [List.mem_cons]
      simp only [Prod.mk.injEq]
      constructor
      · rintro (⟨rfl, rfl⟩ | z)
        · exact .inl ⟨rfl, rfl⟩
        · exact .inr z
      · rintro (⟨rfl, rfl⟩ | z)
        · exact .inl ⟨rfl, rfl⟩
        · exact .inr z
    have em : decide ((x, y) ∈ (a, b) :: as.zip bs) = decide ((a = x ∧ b = y) ∨ (x, y) ∈ as.zip bs) := by
      simp only [m]
    rw [em]
    by_cases h1 : a = x <;> by_cases h2 : b = y <;> by_cases h3 : (x, y) ∈ as.zip bs <;> simp [h1, h2, h3]
theorem findSome_const {α : Type} (p : α → Bool) (d : D) : ∀ l : List α, l.findSome? (fun x => if p x then some d else none) = if l.any p then some d else none
  | [] => rfl
  | x :: l => by
    rw [List.findSome?_cons, List.any_cons, findSome_const p d l]
    cases p x <;> simp
theorem roomsAt_len (h : HS) (b : List Int) (t t' : Int) : (roomsAt h b t).length = (roomsAt h b t').length := by simp [roomsAt]
theorem roomsAt_few {h : HS} (R : RowsOk h) (b : List Int) (t : Int) : (roomsAt h b t).length ≤ 3 := by
  have := zip_few b h.rounds R.few
  simpa [roomsAt] using this
theorem p_caught {h : HS} (R : RowsOk h) (b w : List Int) (hw : w.length < 1000000) (S : List MO) : g__law_caught [eH h, eR b, eR w] S = .ok (oI ((firstMet h b w).map Int.ofNat)) S := by
  have bg := big62_of (i := (w.length : Int)) (by omega) (by omega)
  simp [g__law_caught, F__law_caught, sd0, range_one bg]
  refine for_find_el (P := fun r => (So.bnd r _).out = _) (en := fun i : Nat => D.int (i : Int)) (List.range w.length) (fun sd => ∃ x y z u, sd = [.val (eH h), .val (eR b), .val (eR w), x, y, z, u]) (fun t : Nat => if metB h b t (prevB w t) (w.getD t 0) then some (.int (t : Int)) else none) ?_ ⟨_, _, _, _, rfl⟩ ?_ ?_
  · rintro t ht sd ⟨x, y, z, u, rfl⟩
    have hlt : t < w.length := List.mem_range.mp ht
    refine ⟨[.val (eH h), .val (eR b), .val (eR w), .val (.int (t : Int)), y, z, u], by simp, ?_⟩
    by_cases h1 : w.getD t 0 ∈ roomsAt h b t
    · have e : metB h b t (prevB w t) (w.getD t 0) = true := by simp only [metB, h1, decide_true, Bool.true_or]
      simp [p_there R, ixR_nat hlt, in_lst_ints, h1, e, FindStep, -List.getD_eq_getElem?_getD]
    · by_cases h0 : 0 < t
      · have hx : ixD S (eR w) (.int ((t : Int) - 1)) = some (.int (w.getD (t - 1) 0)) := by
          have e : ((t : Int) - 1) = ((t - 1 : Nat) : Int) := by omega
          rw [e, ixR_nat (by omega)]
        by_cases h2 : w.getD (t - 1) 0 = w.getD t 0
        · have e : metB h b t (prevB w t) (w.getD t 0) = false := by simp [metB, h1, prevB, h0, h2, -List.getD_eq_getElem?_getD]
          simp [p_there R, ixR_nat hlt, in_lst_ints, h1, h0, hx, cmp_ne_int, h2, e, FindStep, -List.getD_eq_getElem?_getD]
        · have h2' : ¬ w.getD t 0 = w.getD (t - 1) 0 := fun z => h2 z.symm
          have fw := roomsAt_few R b t
          have b3 := big62_of (i := ((roomsAt h b t).length : Int)) (by omega) (by omega)
          have e : metB h b t (prevB w t) (w.getD t 0) = (List.range (roomsAt h b t).length).any fun i => decide ((roomsAt h b (t - 1)).getD i 0 = w.getD t 0) && decide ((roomsAt h b t).getD i 0 = w.getD (t - 1) 0) := by
            rw [← zip_any _ _ (roomsAt_len _ _ _ _)]
            simp only [metB, h1, decide_false, Bool.false_or, prevB, h0, if_true, h2, Bool.not_false, Bool.true_and]
          simp [p_there R, ixR_nat hlt, in_lst_ints, h1, h0, hx, cmp_ne_int, h2', range_one b3, -List.getD_eq_getElem?_getD]
          refine for_find_el (P := fun r => FindStep _ _ _ (So.bnd (So.bnd r _) _)) (en := fun i : Nat => D.int (i : Int)) (List.range (roomsAt h b t).length) (fun sd => ∃ u, sd = [.val (eH h), .val (eR b), .val (eR w), .val (.int (t : Int)), .val (.lst ((roomsAt h b t).map .int)), .val (.lst ((roomsAt h b (t - 1)).map .int)), u]) (fun i : Nat => if decide ((roomsAt h b (t - 1)).getD i 0 = w.getD t 0) && decide ((roomsAt h b t).getD i 0 = w.getD (t - 1) 0) then some (.int (t : Int)) else none) ?_ ⟨_, rfl⟩ ?_ ?_
          · rintro i hi sd ⟨u, rfl⟩
            have hil := List.mem_range.mp hi
            refine ⟨[.val (eH h), .val (eR b), .val (eR w), .val (.int (t : Int)), .val (.lst ((roomsAt h b t).map .int)), .val (.lst ((roomsAt h b (t - 1)).map .int)), .val (.int (i : Int))], by simp, ?_⟩
            have l1 := ixL_nat (r := roomsAt h b t) hil S
            have l2 := ixL_nat (r := roomsAt h b (t - 1)) (by rw [roomsAt_len h b _ t]; exact hil) S
            by_cases q1 : (roomsAt h b (t - 1)).getD i 0 = w.getD t 0
            · by_cases q2 : (roomsAt h b t).getD i 0 = w.getD (t - 1) 0
              · simp [l1, l2, ixR_nat hlt, hx, cmp_eq_int, q1, q2, FindStep, -List.getD_eq_getElem?_getD]
              · simp [l1, l2, ixR_nat hlt, hx, cmp_eq_int, q1, q2, FindStep, -List.getD_eq_getElem?_getD]
            · simp [l1, l2, ixR_nat hlt, hx, cmp_eq_int, q1, FindStep, -List.getD_eq_getElem?_getD]
          · intro d hd
            rw [findSome_const, ← e] at hd
            cases q : metB h b t (prevB w t) (w.getD t 0) with
            | true => rw [q] at hd; simp at hd; simp [FindStep, hd]
            | false => rw [q] at hd; simp at hd
          · rintro sd' ⟨u, rfl⟩ hd
            rw [findSome_const, ← e] at hd
            cases q : metB h b t (prevB w t) (w.getD t 0) with
            | true => rw [q] at hd; simp at hd
            | false => simp [FindStep]
      · have e : metB h b t (prevB w t) (w.getD t 0) = false := by simp [metB, h1, prevB, h0, -List.getD_eq_getElem?_getD]
        simp [p_there R, ixR_nat hlt, in_lst_ints, h1, h0, e, FindStep, -List.getD_eq_getElem?_getD]
  · intro d hd
    rw [findSome_if] at hd
    have ee : (List.range w.length).find? (fun t : Nat => metB h b t (prevB w t) (w.getD t 0)) = firstMet h b w := rfl
    rw [ee] at hd
    cases e : firstMet h b w with
    | none => rw [e] at hd; simp at hd
    | some t => rw [e] at hd; simp at hd; simp [oI, hd]
  · rintro sd' ⟨x, y, z, u, rfl⟩ hd
    rw [findSome_if] at hd
    have ee : (List.range w.length).find? (fun t : Nat => metB h b t (prevB w t) (w.getD t 0)) = firstMet h b w := rfl
    rw [ee] at hd
    cases e : firstMet h b w with
    | none => simp [oI]
    | some t => rw [e] at hd; simp at hd
def grow (found : List (List Int)) (r : List Int) : List (List Int) := found.flatMap fun b => (List.range r.length).map fun i : Nat => b ++ [(i : Int)]
def startsB (h : HS) : List (List Int) := h.rounds.foldl grow [[]]
theorem grow_len (found : List (List Int)) (r : List Int) (h : r.length ≤ 6) : (grow found r).length ≤ 6 * found.length := by
  unfold grow
  induction found with
  | nil => simp
  | cons b l ih =>
    rw [List.flatMap_cons, List.length_append, List.length_cons]
    simp only [List.length_map, List.length_range] at *
    omega
theorem p_starts {h : HS} (R : RowsOk h) (S : List MO) : g__law_starts [eH h] S = .ok (.lst ((startsB h).map eR)) S := by
  have one : 1 ≤ sizeLine := by decide
  have zero : 0 ≤ sizeLine := by decide
  have nil : (D.tup []) = eR [] := rfl
  have R1 : (h.rounds.map fun r => r).length ≤ 3 := by simpa using R.few
  simp [g__law_starts, F__law_starts, sd0, one, zero]
  refine for_go (P := fun r => (So.bnd r _).out = _) (en := eR) h.rounds (fun rs sd S' => S' = S ∧ (∀ r ∈ rs, r.length ≤ 6) ∧ ∃ found x y z u, sd = [.val (eH h), .val (.lst (found.map eR)), x, y, z, u] ∧ rs.foldl grow found = startsB h ∧ found.length * 6 ^ rs.length ≤ 216 ∧ ∀ b ∈ found, b.length + rs.length ≤ 3) ?_ ?_ ?_
  · rintro r rs sd S' ⟨rfl, hr, found, x, y, z, u, rfl, hf, hl, hb⟩
    have h6 := hr r (List.mem_cons_self ..)
    have bg := big62_of (i := (r.length : Int)) (by omega) (by omega)
    have hl1 : found.length ≤ 216 := Nat.le_trans (Nat.le_mul_of_pos_right _ (Nat.pow_pos (by omega))) hl
    refine ⟨[.val (eH h), .val (.lst (found.map eR)), .val (eR r), y, z, u], by simp, ?_⟩
    simp only [seqF_ap, ofM_ap, lstE_ap, nilA_ap, bnd_ok, List.length_nil, if_pos zero, liftR_some, stm_ok, setF_ap, sbnd_nx, seqI_ap, getv_ap, List.set_cons_succ, List.set_cons_zero, List.getElem?_cons_succ, List.getElem?_cons_zero, slotR_val, itemsD_lst]
    refine for_go (P := fun q => (So.bnd q _).sat _ _) (en := eR) found (fun bs sd S2 => S2 = S' ∧ ∃ longer z u, sd = [.val (eH h), .val (.lst (found.map eR)), .val (eR r), .val (.lst (longer.map eR)), z, u] ∧ longer ++ grow bs r = grow found r ∧ longer.length + 6 * bs.length ≤ 6 * found.length ∧ ∀ b ∈ bs, b ∈ found) ?_ ?_ ?_
    · rintro b bs sd S2 ⟨rfl, longer, z, u, rfl, e1, e2, e4⟩
      have hbl := hb b (e4 b (List.mem_cons_self ..))
      have ha : ∀ i : Int, addD (eR b) (.tup [.int i]) = some (eR (b ++ [i])) := fun i => by
        unfold eR
        rw [addD_tup (by simp; exact le_line (by omega)), List.map_append]; rfl
      refine ⟨[.val (eH h), .val (.lst (found.map eR)), .val (eR r), .val (.lst (longer.map eR)), .val (eR b), u], by simp, ?_⟩
      simp
      rw [compF_map2 (List.range r.length) (fun i : Nat => D.int (i : Int)) (fun i : Nat => b ++ [(i : Int)]) eR (by simp [range_one bg]) (by simpa using lt_line (by omega)) (fun i hi => by
        simp [turnM_ap, one, ha])]
      simp
      rw [addD_lst (by simp; simp only [List.length_cons] at e2; exact le_line (by omega))]
      simp
      refine ⟨longer ++ (List.range r.length).map (fun i : Nat => b ++ [(i : Int)]), by simp, ?_, ?_, fun c hc => e4 c (List.mem_cons_of_mem _ hc)⟩
      · rw [← e1]
        unfold grow
        rw [List.flatMap_cons, List.append_assoc]
      · rw [List.length_append, List.length_map, List.length_range]
        simp only [List.length_cons] at e2
        omega
    · exact ⟨rfl, [], _, _, rfl, rfl, by simp, fun b hb => hb⟩
    · rintro sd' S2 ⟨rfl, longer, z, u, rfl, e1, e2, _⟩
      have e3 : longer = grow found r := by simpa [grow] using e1
      subst e3
      simp
      refine ⟨fun q hq => hr q (List.mem_cons_of_mem _ hq), grow found r, rfl, hf, ?_, ?_⟩
      · have := grow_len found r h6
        rw [List.length_cons, Nat.pow_succ] at hl
        calc (grow found r).length * 6 ^ rs.length ≤ (6 * found.length) * 6 ^ rs.length := Nat.mul_le_mul_right _ this
          _ = found.length * (6 ^ rs.length * 6) := by rw [Nat.mul_comm 6, Nat.mul_assoc, Nat.mul_comm 6]
          _ ≤ 216 := hl
      · intro c hc
        unfold grow at hc
        obtain ⟨b, hb', hc⟩ := List.mem_flatMap.mp hc
        obtain ⟨i, _, rfl⟩ := List.mem_map.mp hc
        have := hb b hb'
        simp only [List.length_cons, List.length_append, List.length_nil] at *
        omega
  · exact ⟨rfl, fun r hr => (R.row r hr).2, [[]], _, _, _, _, rfl, rfl, by
      have := Nat.pow_le_pow_right (n := 6) (by omega) R.few
      simpa using this, fun b hb => by
      have := R.few
      rw [List.mem_singleton.mp hb]
      simpa using this⟩
  · rintro sd' S' ⟨rfl, _, found, x, y, z, u, rfl, hf, _, _⟩
    have e : found = startsB h := hf
    subst e
    simp
theorem p_deck (cell turn : Int) (h0 : 0 ≤ turn) (S : List MO) : ∃ S', g__law_deck [.int cell, .int turn] S = .ok (.loc S.length) S' ∧ DeckAt S' S.length turn.toNat ∧ (∀ j, j < S.length → S'[j]? = S[j]?) ∧ S'.length = S.length + 1 := by
  have p : powD (.int 10) (.int 18) = some (.int 1000000000000000000) := by
    show (if 0 ≤ (18 : Int) ∧ (18 : Int) ≤ 1000000 ∧ (10 : Int).natAbs < 2 ^ 64 then some (D.int (10 ^ (18 : Int).toNat)) else none) = _
    rw [if_pos ⟨by omega, by omega, by omega⟩]
    rfl
  have three : 3 ≤ sizeLine := by decide
  have b0 : 0 ≤ cell % 2147483579 := Int.emod_nonneg _ (by omega)
  have b1 : cell % 2147483579 < 2147483579 := Int.emod_lt_of_pos _ (by omega)
  by_cases h : cell ≥ 1000000000000000000
  · refine ⟨S ++ [.lst [.int (cell - 1000000000000000000), .int (cell % 2147483579), .int turn]], ?_, ⟨cell - 1000000000000000000, cell % 2147483579, turn, by simp, by omega, b0, by omega, h0, by omega⟩, fun j hj => List.getElem?_append_left hj, by simp⟩
    simp [g__law_deck, F__law_deck, sd0, p, h, three, locF]
  · refine ⟨S ++ [.lst [.int 0, .int (cell % 2147483579), .int turn]], ?_, ⟨0, cell % 2147483579, turn, by simp, by omega, b0, by omega, h0, by omega⟩, fun j hj => List.getElem?_append_left hj, by simp⟩
    simp [g__law_deck, F__law_deck, sd0, p, h, three, locF]
def Chain (doors : List (Int × Int)) (r : List Int) : Prop := ∀ i, i + 1 < r.length → nearB doors (r.getD i 0) (r.getD (i + 1) 0) = true
theorem chain_zip (doors : List (Int × Int)) : ∀ {r : List Int}, Chain doors r → ((r.zip r.tail).all fun p => nearB doors p.1 p.2) = true
  | [], _ => rfl
  | [_], _ => rfl
  | a :: b :: l, h => by
    rw [List.tail_cons, List.zip_cons_cons, List.all_cons]
    have h1 := h 0 (by simp)
    have ih := chain_zip doors (r := b :: l) fun i hi => by
      have := h (i + 1) (by simpa using hi)
      simpa using this
    rw [List.tail_cons] at ih
    rw [ih, Bool.and_true]
    simpa using h1
theorem zip_chain (doors : List (Int × Int)) : ∀ {r : List Int}, ((r.zip r.tail).all fun p => nearB doors p.1 p.2) = true → Chain doors r
  | [], _ => fun i hi => by simp at hi
  | [_], _ => fun i hi => by simp at hi
  | a :: b :: l, h => by
    rw [List.tail_cons, List.zip_cons_cons, List.all_cons, Bool.and_eq_true] at h
    intro i hi
    cases i with
    | zero => simpa using h.1
    | succ i =>
      have := zip_chain doors (r := b :: l) h.2 i (by simpa using hi)
      simpa using this
structure RowIn (n : Int) (doors : List (Int × Int)) (r : List Int) : Prop where
  ne : r ≠ []
  inr : ∀ x ∈ r, 0 ≤ x ∧ x < n
  ch : Chain doors r
theorem RowIn.rowB {n : Int} {doors : List (Int × Int)} {r : List Int} (h : RowIn n doors r) {m : Int} (hm : (r.length : Int) ≤ m) : rowB r n doors m = true := by
  have l := List.length_pos_iff.mpr h.ne
  unfold Q.rowB
  rw [chain_zip doors h.ch]
  simp only [Bool.and_eq_true, decide_eq_true_eq, List.all_eq_true, inB, and_true]
  exact ⟨⟨by omega, hm⟩, fun x hx => by have := h.inr x hx; omega⟩
theorem rowIn {n : Int} {doors : List (Int × Int)} {r : List Int} {m : Int} (h : rowB r n doors m = true) : RowIn n doors r := by
  unfold rowB at h
  simp only [Bool.and_eq_true, decide_eq_true_eq, List.all_eq_true, inB] at h
  refine ⟨fun z => by rw [z] at h; simp at h, fun x hx => by have := h.1.2 x hx; omega, zip_chain doors (List.all_eq_true.mpr h.2)⟩
theorem getD_last (r : List Int) (x : Int) (l : List Int) (e : r = l ++ [x]) : r.getLastD 0 = x ∧ r.getD l.length 0 = x := by
  subst e
  simp
theorem RowIn.snoc {n : Int} {doors : List (Int × Int)} {r : List Int} (h : RowIn n doors r) {y : Int} (hy : 0 ≤ y ∧ y < n) (hn : nearB doors (lastI r) y = true) : RowIn n doors (r ++ [y]) := by
  refine ⟨by simp, fun x hx => ?_, fun i hi => ?_⟩
  · rcases List.mem_append.mp hx with q | q
    · exact h.inr x q
    · rw [List.mem_singleton.mp q]; exact hy
  · simp only [List.length_append, List.length_cons, List.length_nil] at hi
    by_cases e : i + 1 < r.length
    · have := h.ch i e
      simp only [List.getD_eq_getElem?_getD] at *
      rw [List.getElem?_append_left (by omega), List.getElem?_append_left e]
      exact this
    · have ei : i + 1 = r.length := by omega
      have el : lastI r = r.getD i 0 := by
        unfold lastI
        rw [List.getLastD_eq_getLast?, List.getLast?_eq_getElem?, List.getD_eq_getElem?_getD]
        rw [show r.length - 1 = i by omega]
      rw [el] at hn
      simp only [List.getD_eq_getElem?_getD] at *
      rw [List.getElem?_append_left (by omega), ei, List.getElem?_concat_length]
      exact hn
theorem RowIn.init {n : Int} {doors : List (Int × Int)} {r : List Int} (h : RowIn n doors r) (hl : 2 ≤ r.length) : RowIn n doors r.dropLast := by
  refine ⟨fun z => by have := congrArg List.length z; simp at this; omega, fun x hx => h.inr x (List.dropLast_subset _ hx), fun i hi => ?_⟩
  simp only [List.length_dropLast] at hi
  have := h.ch i (by omega)
  simp only [List.getD_eq_getElem?_getD] at *
  rw [List.getElem?_dropLast, List.getElem?_dropLast, if_pos (by omega), if_pos (by omega)]
  exact this
theorem lastI_mem {r : List Int} (h : r ≠ []) : lastI r ∈ r := by
  unfold lastI
  rw [List.getLastD_eq_getLast?, List.getLast?_eq_some_getLast h]
  exact List.getLast_mem h
theorem headI_mem {r : List Int} (h : r ≠ []) : headI r ∈ r := by
  cases r with
  | nil => exact absurd rfl h
  | cons a r => simp [headI]
theorem ixL0 {r : List Int} (h : r ≠ []) (S : List MO) : ixD S (.lst (r.map .int)) (.int 0) = some (.int (headI r)) := ixR0 h S
theorem ixLl {r : List Int} (h : r ≠ []) (S : List MO) : ixD S (.lst (r.map .int)) (.int (-1)) = some (.int (lastI r)) := ixRl h S
theorem cut_last (ds : List D) : cutD ds none (some (-1)) = ds.dropLast := by
  unfold cutD
  have e0 : HT.sIx ds.length 0 none = 0 := rfl
  have e1 : HT.sIx ds.length ds.length (some (-1)) = ds.length - 1 := by
    show (if (-1 : Int) < 0 then ((-1 : Int) + (ds.length : Int)).toNat else min (-1 : Int).toNat ds.length) = _
    rw [if_pos (by omega)]
    omega
  rw [e0, e1, List.drop_zero, Nat.sub_zero, List.dropLast_eq_take]
theorem notin_by {l : List Int} {i : Int} : cmpD .NotIn (.int i) (.lst (l.map .int)) = some (.bl (!decide (i ∈ l))) := notin_lst_ints l i
theorem by_len {doors : List (Int × Int)} (room : Int) : (byB doors room).length ≤ 2 * doors.length := by
  unfold byB
  rw [List.length_mergeSort, List.length_append, List.length_map, List.length_map]
  have a := List.length_filter_le (fun p : Int × Int => decide (p.2 = room)) doors
  have b := List.length_filter_le (fun p : Int × Int => decide (p.1 = room)) doors
  omega
/-- a room beside one, or that one -/
theorem by_near {doors : List (Int × Int)} {n : Int} (dk : DoorsOk doors n) {a x : Int} (h : x ∈ byB doors a) : nearB doors a x = true ∧ 0 ≤ x ∧ x < n := by
  have h' := (mem_by a x).mp h
  refine ⟨(near_iff dk a x).mpr ?_, ?_⟩
  · rcases h' with q | q
    · exact .inr (.inr q)
    · exact .inr (.inl q)
  · rcases h' with q | q <;> have := dk.inr _ q <;> simp only at this <;> omega
theorem near_refl (doors : List (Int × Int)) (a : Int) : nearB doors a a = true := by simp [nearB]
theorem near_symm {doors : List (Int × Int)} {a b : Int} : nearB doors a b = nearB doors b a := by
  unfold nearB
  have e1 : mn a b = mn b a := by unfold mn; split <;> split <;> omega
  have e2 : mx a b = mx b a := by unfold mx; split <;> split <;> omega
  rw [e1, e2]
  congr 1
  by_cases h : a = b <;> simp [h]
  exact fun z => h z.symm
theorem p_a_round {hd : D} {n : Int} {doors : List (Int × Int)} (x0 : ∀ S, ixD S hd (.int 0) = some (.int n)) (x1 : ∀ S, ixD S hd (.int 1) = some (.tup (doors.map eP))) (n2 : 2 ≤ n) (n6 : n ≤ 6) (dk : DoorsOk doors n)
    {S : List MO} {j c : Nat} (d : DeckAt S j c) (hc : c ≤ 100000000) {m : Int} (m1 : 1 ≤ m) (m6 : m ≤ 6) :
    ∃ r S', g__law_a_round [.loc j, hd, .int m] S = .ok (eR r) S' ∧ Drawn j (c + 8) S S' ∧ rowB r n doors m = true ∧ nearB doors (lastI r) (headI r) = true := by
  have one : 1 ≤ sizeLine := by decide
  have hby := fun r S => p_by x1 (by have := dk.few; omega) r S
  obtain ⟨k1, S1, e1, a1, b1, r1⟩ := p_pick (m := n) d (by omega) (by omega) (by omega)
  obtain ⟨k2, S2, e2, a2, b2, r2⟩ := p_pick (m := m) r1.deck (by omega) (by omega) (by omega)
  have bg := big62_of (i := k2) (by omega) (by omega)
  -- the end is told by what holds of it
  suffices hs : ∀ P : Res D → Prop, (∀ r S', Drawn j (c + 8) S S' → rowB r n doors m = true → nearB doors (lastI r) (headI r) = true → P (.ok (eR r) S')) → P (g__law_a_round [.loc j, hd, .int m] S) by
    exact hs (fun q => ∃ r S', q = .ok (eR r) S' ∧ Drawn j (c + 8) S S' ∧ rowB r n doors m = true ∧ nearB doors (lastI r) (headI r) = true) fun r S' h1 h2 h3 => ⟨r, S', rfl, h1, h2, h3⟩
  intro P hP
  simp [g__law_a_round, F__law_a_round, sd0, x0, e1, e2, one, range_one bg]
  refine for_go (P := fun q => P (So.bnd q _).out) (en := fun i : Nat => D.int (i : Int)) (List.range k2.toNat) (fun xs sd S' => ∃ row x, sd = [.val (.loc j), .val hd, .val (.int m), .own (row.map .int), x] ∧ RowIn n doors row ∧ (row.length : Int) + xs.length ≤ m ∧ ∃ c', Drawn j c' S S' ∧ c' + xs.length ≤ c + 8) ?_ ?_ ?_
  · rintro t xs sd S3 ⟨row, x, rfl, hr, hl, c', r3, hc'⟩
    refine ⟨[.val (.loc j), .val hd, .val (.int m), .own (row.map .int), .val (.int (t : Int))], by simp, ?_⟩
    simp only [List.length_cons] at hl hc'
    have bl := by_len (doors := doors) (lastI row)
    have df := dk.few
    have hm2 : mulD (.lst ((byB doors (lastI row)).map .int)) (.int 2) = some (.lst (((byB doors (lastI row)) ++ (byB doors (lastI row))).map .int)) := by
      show (if -(2 ^ 63) ≤ (2 : Int) ∧ (2 : Int) < 2 ^ 63 ∧ ((byB doors (lastI row)).map D.int).length * (2 : Int).toNat ≤ sizeLine then some (D.lst (List.replicate (2 : Int).toNat ((byB doors (lastI row)).map D.int)).flatten) else none) = _
      rw [if_pos ⟨by omega, by omega, by rw [List.length_map]; exact le_line (by show (byB doors (lastI row)).length * 2 ≤ 1000000; omega)⟩]
      show some (D.lst (List.replicate 2 ((byB doors (lastI row)).map D.int)).flatten) = _
      simp [List.replicate]
    have ha : addD (.lst [.int (lastI row)]) (.lst (((byB doors (lastI row)) ++ (byB doors (lastI row))).map .int)) = some (.lst ((lastI row :: (byB doors (lastI row) ++ byB doors (lastI row))).map .int)) := by
      rw [addD_lst (by simp; exact le_line (by omega))]; rfl
    obtain ⟨x, hx, S4, e4, r4⟩ := p_one (ds := (lastI row :: (byB doors (lastI row) ++ byB doors (lastI row))).map .int) r3.deck (by omega) (by simp) (by simp; omega)
    obtain ⟨y, hy, rfl⟩ := List.mem_map.mp hx
    have hy' : nearB doors (lastI row) y = true ∧ 0 ≤ y ∧ y < n := by
      rcases List.mem_cons.mp hy with q | q
      · subst q
        have := hr.inr _ (lastI_mem hr.ne)
        exact ⟨near_refl _ _, this⟩
      · rcases List.mem_append.mp q with q | q <;> exact by_near dk q
    have hrl : row.length < sizeLine := lt_line (by omega)
    have step : (appF 3 (callE g__law_one (consA (getv 0) (consA (opE addD (lstE (consA (ixE (getb 3) (negE (litE (.int 1)))) nilA)) (opE mulD (callE g__law_by (consA (getv 1) (consA (ixE (getb 3) (negE (litE (.int 1)))) nilA))) (litE (.int 2)))) nilA)))) [.val (.loc j), .val hd, .val (.int m), .own (row.map .int), .val (.int (t : Int))] S3 = .nx [.val (.loc j), .val hd, .val (.int m), .own ((row ++ [y]).map .int), .val (.int (t : Int))] S4 := by
      have q : (callE g__law_one (consA (getv 0) (consA (opE addD (lstE (consA (ixE (getb 3) (negE (litE (.int 1)))) nilA)) (opE mulD (callE g__law_by (consA (getv 1) (consA (ixE (getb 3) (negE (litE (.int 1)))) nilA))) (litE (.int 2)))) nilA))) [.val (.loc j), .val hd, .val (.int m), .own (row.map .int), .val (.int (t : Int))] S3 = .ok (.int y) S4 := by
        simp only [callE_ap, consA_ap, getv_ap, opE_ap, lstE_ap, ixE_ap, getb_ap, negE_ap, litE_ap, nilA_ap, List.getElem?_cons_zero, List.getElem?_cons_succ, slotR_val, slotB_own, bnd_ok, negM_int, ixLl hr.ne, liftR_some, List.length_cons, List.length_nil, Nat.zero_add, if_pos one, hby, hm2, ha, e4]
      unfold appF
      simp only [List.getElem?_cons_zero, List.getElem?_cons_succ, q, List.length_map, if_pos hrl, List.set_cons_succ, List.set_cons_zero, List.map_append, List.map_cons, List.map_nil]
    simp only [seqF_ap, step, sbnd_nx, nxF_ap, sat_nx]
    refine ⟨row ++ [y], _, rfl, hr.snoc hy'.2 hy'.1, by simp; omega, c' + 1, r3.trans r4, by omega⟩
  · exact ⟨[k1], _, rfl, ⟨by simp, fun x hx => by rw [List.mem_singleton.mp hx]; exact ⟨a1, b1⟩, fun i hi => by simp at hi⟩, by simp; omega, c + 1 + 1, r1.trans r2, by simp; omega⟩
  · rintro sd' S3 ⟨row, x, rfl, hr, hl, c', r3, hc'⟩
    simp
    refine while_el (P := fun q => P (So.bnd q _).out) (fun k sd S' => ∃ row, sd = [.val (.loc j), .val hd, .val (.int m), .own (row.map .int), x] ∧ k = row.length ∧ RowIn n doors row ∧ (row.length : Int) ≤ m ∧ S' = S3) (fun sd S' => ∃ row, sd = [.val (.loc j), .val hd, .val (.int m), .own (row.map .int), x] ∧ RowIn n doors row ∧ (row.length : Int) ≤ m ∧ S' = S3 ∧ nearB doors (lastI row) (headI row) = true) (fun _ _ => False) row.length ⟨row, rfl, rfl, hr, by simpa using hl, rfl⟩ (by show row.length < 1000; simp at hl; omega) ?_ ?_ (fun _ _ h => h.elim)
    · rintro k sd S' ⟨row, rfl, rfl, hr, hl, rfl⟩
      have i0 := ixL0 hr.ne S'
      have il := ixLl hr.ne S'
      by_cases e : lastI row = headI row
      · refine ⟨false, S', by simp [i0, il, cmp_ne_int, e], ?_⟩
        refine ⟨row, rfl, hr, hl, rfl, ?_⟩
        rw [e]; exact near_refl _ _
      · by_cases e' : lastI row ∈ byB doors (headI row)
        · refine ⟨false, S', by simp [i0, il, cmp_ne_int, e, hby, notin_by, e'], ?_⟩
          refine ⟨row, rfl, hr, hl, rfl, ?_⟩
          rw [near_symm]
          exact (by_near dk e').1
        · refine ⟨true, S', by simp [i0, il, cmp_ne_int, e, hby, notin_by, e'], ?_⟩
          have h2 : 2 ≤ row.length := by
            match row, hr.ne, e with
            | [a], _, e => exact absurd rfl e
            | a :: b :: l, _, _ => simp
          refine ⟨row.length - 1, by omega, ?_⟩
          simp [slF, cut_last]
          refine ⟨row.dropLast, by simp, by simp, hr.init h2, by simp; omega⟩
    · rintro sd' S' ⟨row, rfl, hr, hl, rfl, hn⟩
      simp
      exact hP row S' (r3.mono (by simp at hc'; omega)) (hr.rowB hl) hn
theorem compM_draw {α β : Type} {f : D → M (Option D)} {en : α → D} {en2 : β → D} (I : List β → List α → List MO → Prop)
    (hf : ∀ acc x xs S, I acc (x :: xs) S → ∃ (o : Option β) (S1 : List MO), f (en x) S = .ok (o.map en2) S1 ∧ I (acc ++ o.toList) xs S1) : ∀ (xs : List α) (acc : List β) (S : List MO), I acc xs S → ∃ r S1, compM f (xs.map en) S = .ok (r.map en2) S1 ∧ I (acc ++ r) [] S1
  | [], acc, S, h => ⟨[], S, rfl, by simpa using h⟩
  | x :: xs, acc, S, h => by
    obtain ⟨o, S1, e1, h1⟩ := hf acc x xs S h
    obtain ⟨r, S2, e2, h2⟩ := compM_draw I hf xs _ S1 h1
    refine ⟨o.toList ++ r, S2, ?_, by simpa using h2⟩
    simp only [List.map_cons, compM, bind_bnd, e1, bnd_ok, e2, pure_ap]
    cases o <;> rfl
theorem compF_draw {α β : Type} {it t vs c e sd} {S : List MO} (xs : List α) (en : α → D) (en2 : β → D) (h : it sd S = .ok (xs.map en) S) (hs : xs.length < sizeLine) (I : List β → List α → List MO → Prop)
    (hf : ∀ acc x xs S, I acc (x :: xs) S → ∃ (o : Option β) (S1 : List MO), turnM t vs sd c e (en x) S = .ok (o.map en2) S1 ∧ I (acc ++ o.toList) xs S1) (h0 : I [] xs S) : ∃ r S1, compF it t vs c e sd S = .ok (r.map en2) S1 ∧ I r [] S1 := by
  obtain ⟨r, S1, e1, h1⟩ := compM_draw (f := turnM t vs sd c e) I hf xs [] S h0
  exact ⟨r, S1, by rw [compF_ap h (by simpa using hs)]; exact e1, by simpa using h1⟩
def leP (p q : Int × Int) : Bool := decide (p.1 < q.1 ∨ (p.1 = q.1 ∧ p.2 ≤ q.2))
theorem sort_pairs {l : List (Int × Int)} (hl : l.length ≤ sizeLine) : sortedD [.lst (l.map eP)] = some (.lst ((l.mergeSort leP).map eP)) := by
  have o1 : ∀ p, ok60 (eP p) = true := fun p => ok_eP p 59
  have o2 : ∀ p q : Int × Int, PySem.W.alike (eP p).py (eP q).py = true := fun p q => by simp [eP, D.py, pyA, PySem.W.alike, PySem.W.alikeAll]
  have o : sortOk (l.map eP) = true := by
    unfold sortOk
    simp only [Bool.and_eq_true, List.all_eq_true, List.mem_map, forall_exists_index, and_imp, forall_apply_eq_imp_iff₂, o1, o2, Bool.or_eq_true, decide_eq_true_eq, List.length_map, hl, and_true, implies_true, true_and]
    left
    intro p _
    rfl
  have e : sortL (l.map eP) = (l.mergeSort leP).map eP := by
    unfold sortL
    symm
    refine List.map_mergeSort fun a _ b _ => ?_
    have q : PySem.W.dataLe false D.py (eP a) (eP b) = PySem.W.dataLe false (fun p : Int × Int => .tuple [.int (Prod.fst p), .int (Prod.snd p)]) a b := rfl
    rw [q, PySem.W.dataLe_ii]; rfl
  show (if sortOk (l.map eP) then some (D.lst (sortL (l.map eP))) else none) = _
  rw [o, e]; rfl
theorem sortP_asc {l : List (Int × Int)} (h : l.Nodup) : (l.mergeSort leP).Pairwise (fun p q => ltP p q = true) := by
  have h1 : (l.mergeSort leP).Pairwise (fun p q => leP p q = true) := List.pairwise_mergeSort (fun a b c h1 h2 => by
    unfold leP at *
    simp only [decide_eq_true_eq] at *
    omega) (fun a b => by
    unfold leP
    simp only [Bool.or_eq_true, decide_eq_true_eq]
    omega) l
  have h2 : (l.mergeSort leP).Nodup := (List.mergeSort_perm l leP).nodup_iff.mpr h
  refine (h1.and h2).imp fun {p q} z => ?_
  obtain ⟨a, b⟩ := p
  obtain ⟨c, d⟩ := q
  have z1 := z.1
  have z2 := z.2
  unfold leP at z1
  unfold ltP
  simp only [decide_eq_true_eq, ne_eq, Prod.mk.injEq] at *
  omega
theorem pair_asc : ∀ {l : List (Int × Int)}, l.Pairwise (fun p q => ltP p q = true) → ascB l = true
  | [], _ => rfl
  | [_], _ => rfl
  | p :: q :: l, h => by
    rw [List.pairwise_cons] at h
    have ih := pair_asc h.2
    unfold ascB at *
    simp only [List.tail_cons, List.zip_cons_cons, List.all_cons, Bool.and_eq_true] at *
    exact ⟨h.1 q (List.mem_cons_self ..), by simpa using ih⟩
theorem DoorsOk.doorsB {l : List (Int × Int)} {n : Int} (d : DoorsOk l n) (h : l ≠ []) : doorsB l n = true := by
  have := List.length_pos_iff.mpr h
  have hf := d.few
  unfold Q.doorsB
  rw [pair_asc d.asc]
  simp only [Bool.and_eq_true, decide_eq_true_eq, List.all_eq_true, and_true]
  refine ⟨by omega, fun p hp => ?_⟩
  have := d.inr p hp
  unfold doorB inB
  simp only [Bool.and_eq_true, decide_eq_true_eq]
  omega
def moreB (N : Nat) (one : Nat) : List (Int × Int) := (List.range (N - (one + 2))).map fun k : Nat => ((one : Int), (one : Int) + 2 + (k : Int))
def baseB (N : Nat) : List (Int × Int) := (List.range (N - 1)).map fun i : Nat => ((i : Int), (i : Int) + 1)
def allB (N : Nat) : List (Int × Int) := baseB N ++ (List.range N).flatMap (moreB N)
theorem allB_ok (N : Nat) (h : 2 ≤ N) (h' : N ≤ 5) : (allB N).Nodup ∧ (allB N).length ≤ 10 ∧ ∀ p ∈ allB N, 0 ≤ p.1 ∧ p.1 < p.2 ∧ p.2 < (N : Int) := by
  have : N = 2 ∨ N = 3 ∨ N = 4 ∨ N = 5 := by omega
  rcases this with z | z | z | z <;> subst z <;> decide
theorem sub_doors {N : Nat} (h : 2 ≤ N) (h' : N ≤ 5) {l : List (Int × Int)} (s : l.Sublist (allB N)) : DoorsOk (l.mergeSort leP) (N : Int) := by
  obtain ⟨a1, a2, a3⟩ := allB_ok N h h'
  refine ⟨?_, fun p hp => a3 p (s.subset (List.mem_mergeSort.mp hp)), sortP_asc (a1.sublist s)⟩
  rw [List.length_mergeSort]
  have := s.length_le
  omega
theorem prod_snoc (rs : List (List Int)) (r : List Int) (a : Int) : prodB (rs ++ [r]) a = prodB rs a * (r.length : Int) := by simp [prodB, List.foldl_append]
/-- a drawn house -/
structure HouseD (h : HS) (m : Int) : Prop where
  ok : HouseOk h
  n5 : h.n ≤ 5
  len : ∀ r ∈ h.rounds, (r.length : Int) ≤ m
  prod : prodB h.rounds 1 ≤ 36
theorem lastR (rs : List (List Int)) (h : rs ≠ []) : ∃ l r, rs = l ++ [r] := ⟨rs.dropLast, rs.getLast h, (List.dropLast_concat_getLast h).symm⟩
theorem ixT_last (l : List D) (x : D) (S : List MO) : ixD S (.tup (l ++ [x])) (.int (-1)) = some x := by
  have e : L2.ixN (l ++ [x]).length (-1) = some l.length := by
    unfold L2.ixN
    simp
    omega
  show L2.atI (l ++ [x]) (-1) = _
  unfold L2.atI
  rw [e]
  simp
theorem p_a_house {S : List MO} {j c : Nat} (d : DeckAt S j c) (hc : c ≤ 10000000) {m g : Int} (m1 : 1 ≤ m) (m6 : m ≤ 6) (g1 : 1 ≤ g) (g3 : g ≤ 3) :
    ∃ h S', g__law_a_house [.loc j, .int m, .int g] S = .ok (eH h) S' ∧ Drawn j (c + 100) S S' ∧ HouseD h m := by
  have one : 1 ≤ sizeLine := by decide
  have two : 2 ≤ sizeLine := by decide
  obtain ⟨k1, S1, e1, a1, b1, r1⟩ := p_pick (m := 4) d (by omega) (by omega) (by omega)
  suffices hs : ∀ P : Res D → Prop, (∀ h S', Drawn j (c + 100) S S' → HouseD h m → P (.ok (eH h) S')) → P (g__law_a_house [.loc j, .int m, .int g] S) by
    exact hs (fun q => ∃ h S', q = .ok (eH h) S' ∧ Drawn j (c + 100) S S' ∧ HouseD h m) fun h S' h1 h2 => ⟨h, S', rfl, h1, h2⟩
  intro P hP
  obtain ⟨N, hN⟩ : ∃ N : Nat, 2 + k1 = (N : Int) := ⟨(2 + k1).toNat, by omega⟩
  have N2 : 2 ≤ N := by omega
  have N5 : N ≤ 5 := by omega
  have bg := big62_of (i := (N : Int)) (by omega) (by omega)
  have bg1 := big62_of (i := (N : Int) - 1) (by omega) (by omega)
  have tn : ((N : Int) - 1).toNat = N - 1 := by omega
  simp [g__law_a_house, F__law_a_house, sd0, e1, hN]
  rw [compF_map2 (List.range (N - 1)) (fun i : Nat => D.int (i : Int)) (fun i : Nat => ((i : Int), (i : Int) + 1)) eP (by simp [range_one bg1, tn]) (by simpa using lt_line (by omega)) (fun i _ => by simp [turnM_ap, two, eP])]
  simp only [bnd_ok, stm_ok, setF_ap, sbnd_nx, seqF_ap, ofM_ap, rngI_ap, consA_ap, nilA_ap, getv_ap, List.set_cons_succ, List.set_cons_zero, List.getElem?_cons_succ, List.getElem?_cons_zero, slotR_val, range_one bg, liftR_some, Int.toNat_natCast, Int.zero_add]
  refine for_go (P := fun q => P (So.bnd q _).out) (en := fun i : Nat => D.int (i : Int)) (List.range N) (fun xs sd S' => ∃ pre more x, pre ++ xs = List.range N ∧ sd = [.val (.loc j), .val (.int m), .val (.int g), .val (.int (N : Int)), .val (.lst ((baseB N ++ more).map eP)), x, .un, .un, .un, .un, .un, .un] ∧ more.Sublist (pre.flatMap (moreB N)) ∧ ∃ c', Drawn j c' S S' ∧ c' + 5 * xs.length ≤ c + 40) ?_ ?_ ?_
  · rintro i xs sd S3 ⟨pre, more, x, hp, rfl, hm, c', r3, hc'⟩
    have hi : i < N := by
      have : i ∈ List.range N := by rw [← hp]; simp
      exact List.mem_range.mp this
    refine ⟨[.val (.loc j), .val (.int m), .val (.int g), .val (.int (N : Int)), .val (.lst ((baseB N ++ more).map eP)), .val (.int (i : Int)), .un, .un, .un, .un, .un, .un], by simp, ?_⟩
    simp only [List.length_cons] at hc'
    have bg2 := big62_of (i := (i : Int) + 2) (by omega) (by omega)
    have tn2 : ((N : Int) - ((i : Int) + 2)).toNat = N - (i + 2) := by omega
    have hmem : ∀ k ∈ List.range (N - (i + 2)), True := fun _ _ => trivial
    have hf : ∀ (acc : List (Int × Int)) (k : Nat) (ks : List Nat) (S' : List MO), ((∃ pr, pr ++ k :: ks = List.range (N - (i + 2)) ∧ acc.Sublist (pr.map fun k : Nat => ((i : Int), (i : Int) + 2 + (k : Int)))) ∧ ∃ c2, Drawn j c2 S S' ∧ c2 + (k :: ks).length ≤ c' + 3) →
        ∃ (o : Option (Int × Int)) (S1 : List MO), turnM (.nm 11) [11] [.val (.loc j), .val (.int m), .val (.int g), .val (.int (N : Int)), .val (.lst ((baseB N ++ more).map eP)), .val (.int (i : Int)), .un, .un, .un, .un, .un, .un] (valT (opE (cmpD .Eq) (callE g__law_pick (consA (getv 0) (consA (litE (.int 3)) nilA))) (litE (.int 0)))) (tupE (consA (getv 5) (consA (getv 11) nilA))) (D.int ((i : Int) + 2 + (k : Int))) S' = .ok (o.map eP) S1 ∧
          ((∃ pr, pr ++ ks = List.range (N - (i + 2)) ∧ (acc ++ o.toList).Sublist (pr.map fun k : Nat => ((i : Int), (i : Int) + 2 + (k : Int)))) ∧ ∃ c2, Drawn j c2 S S1 ∧ c2 + ks.length ≤ c' + 3) := by
      rintro acc k ks S' ⟨⟨pr, hpr, hsub⟩, c2, r5, hc2⟩
      simp only [List.length_cons] at hc2
      obtain ⟨v, S6, e6, a6, b6, r6⟩ := p_pick (m := 3) r5.deck (by omega) (by omega) (by omega)
      by_cases hv : v = 0
      · refine ⟨some ((i : Int), (i : Int) + 2 + (k : Int)), S6, by simp [turnM_ap, e6, cmp_eq_int, hv, two, eP], ⟨pr ++ [k], by simpa using hpr, ?_⟩, c2 + 1, r5.trans r6, by omega⟩
        rw [List.map_append]
        exact hsub.append (List.Sublist.refl _)
      · refine ⟨none, S6, by simp [turnM_ap, e6, cmp_eq_int, hv], ⟨pr ++ [k], by simpa using hpr, ?_⟩, c2 + 1, r5.trans r6, by omega⟩
        rw [List.map_append]
        simpa using hsub.trans (List.sublist_append_left _ _)
    have hit : (rngI (consA (opE addD (getb 5) (litE (.int 2))) (consA (getv 3) nilA))) [.val (.loc j), .val (.int m), .val (.int g), .val (.int (N : Int)), .val (.lst ((baseB N ++ more).map eP)), .val (.int (i : Int)), .un, .un, .un, .un, .un, .un] S3 = .ok ((List.range (N - (i + 2))).map fun k : Nat => D.int ((i : Int) + 2 + (k : Int))) S3 := by
      simp only [rngI_ap, consA_ap, opE_ap, getb_ap, getv_ap, litE_ap, nilA_ap, List.getElem?_cons_zero, List.getElem?_cons_succ, slotB_val, slotR_val, bnd_ok, addD_int, liftR_some, range_two bg2 bg, tn2]
    obtain ⟨acc, S4, e4, ⟨pr, hpr, hsub⟩, c2, r5, hc2⟩ := compF_draw (List.range (N - (i + 2))) (fun k : Nat => D.int ((i : Int) + 2 + (k : Int))) eP hit (by rw [List.length_range]; exact lt_line (by omega)) (fun (acc : List (Int × Int)) (ks : List Nat) (S' : List MO) => ((∃ pr, pr ++ ks = List.range (N - (i + 2)) ∧ acc.Sublist (pr.map fun k : Nat => ((i : Int), (i : Int) + 2 + (k : Int)))) ∧ ∃ c2, Drawn j c2 S S' ∧ c2 + ks.length ≤ c' + 3)) hf
      ⟨⟨[], by simp, by simp⟩, c', r3, by rw [List.length_range]; omega⟩
    have hpr' : pr = List.range (N - (i + 2)) := by simpa using hpr
    subst hpr'
    have ml : more.length + acc.length ≤ 1000 := by
      have q : (more ++ acc).Sublist ((pre ++ [i]).flatMap (moreB N)) := by
        rw [List.flatMap_append]
        refine hm.append ?_
        simpa [moreB] using hsub
      have q1 : (baseB N ++ (more ++ acc)).Sublist (baseB N ++ (pre ++ i :: xs).flatMap (moreB N)) := by
        refine (List.Sublist.refl _).append (q.trans ?_)
        have : pre ++ i :: xs = (pre ++ [i]) ++ xs := by simp
        rw [this, List.flatMap_append (xs := pre ++ [i])]
        exact List.sublist_append_left _ _
      rw [hp] at q1
      have q2 := q1.length_le
      have q3 := (allB_ok N N2 N5).2.1
      unfold allB at q3
      simp only [List.length_append] at *
      omega
    have bl : (baseB N).length ≤ 10 := by simp [baseB]; omega
    have hadd : addD (.lst ((baseB N ++ more).map eP)) (.lst (acc.map eP)) = some (.lst ((baseB N ++ (more ++ acc)).map eP)) := by
      rw [addD_lst (by simp only [List.length_map, List.length_append]; exact le_line (by omega)), ← List.map_append, List.append_assoc]
    simp only [seqF_ap, ofM_ap, opE_ap, getb_ap, frsE_ap, e4, bnd_ok, List.getElem?_cons_zero, List.getElem?_cons_succ, slotB_val, hadd, liftR_some, stm_ok, setF_ap, List.set_cons_succ, List.set_cons_zero, sbnd_nx, nxF_ap, sat_nx]
    refine ⟨pre ++ [i], more ++ acc, _, by simpa using hp, rfl, ?_, c2, r5, by simp at hc2; omega⟩
    rw [List.flatMap_append]
    refine hm.append ?_
    simpa [moreB] using hsub
  · exact ⟨[], [], .un, rfl, by simp [baseB], by simp, c + 1, r1, by rw [List.length_range]; omega⟩
  · rintro sd' S3 ⟨pre, more, x, hp, rfl, hm, c', r3, hc'⟩
    have hpre : pre = List.range N := by simpa using hp
    subst hpre
    have hsub : (baseB N ++ more).Sublist (allB N) := (List.Sublist.refl _).append hm
    have bl : (baseB N).length = N - 1 := by simp [baseB]
    -- the first door may be left out
    have go : ∀ (every : List (Int × Int)) (S4 : List MO) (c4 : Nat), every ≠ [] → every.Sublist (allB N) → Drawn j c4 S S4 → c4 ≤ c + 41 →
        P (seqF (ofM (tupE (consA (getv 3) (consA (biE tupleD (consA (biE sortedD (consA (getb 4) nilA)) nilA)) nilA))) (setF 6)) (seqF (ofM (consA (tupE (consA (callE g__law_a_round (consA (getv 0) (consA (getv 6) (consA (getv 1) nilA)))) nilA)) (consA (litE (.int 1)) nilA)) (parF 7 8)) (seqF (ofM (rngI (consA (callE g__law_pick (consA (getv 0) (consA (getv 2) nilA))) nilA)) (forF (.nm 9) (seqF (ofM (callE g__law_a_round (consA (getv 0) (consA (getv 6) (consA (getv 1) nilA)))) (setF 10)) (seqF (ofM (opE mulD (getb 8) (biE lenD (consA (ixE (getb 7) (negE (litE (.int 1)))) nilA))) (setF 8)) (seqF (ofM (valT (opE (cmpD .LtE) (opE mulD (getb 8) (biE lenD (consA (getb 10) nilA))) (litE (.int 36)))) (ifF (seqF (ofM (opE addD (getb 7) (tupE (consA (getv 10) nilA))) (setF 7)) nxF) nxF)) nxF))))) (seqF (ofM (opE addD (getb 6) (tupE (consA (getv 7) nilA))) retF) nxF))) [.val (.loc j), .val (.int m), .val (.int g), .val (.int (N : Int)), .val (.lst (every.map eP)), x, .un, .un, .un, .un, .un, .un] S4).out := by
      intro every S4 c4 hne hsb r4 hc4
      have el : every.length ≤ 10 := Nat.le_trans hsb.length_le (allB_ok N N2 N5).2.1
      have dk := sub_doors N2 N5 hsb
      have dne : every.mergeSort leP ≠ [] := fun z => by
        have := congrArg List.length z
        rw [List.length_mergeSort] at this
        exact hne (List.length_eq_zero_iff.mp this)
      have x0 : ∀ S, ixD S (.tup [.int (N : Int), .tup ((every.mergeSort leP).map eP)]) (.int 0) = some (.int (N : Int)) := fun S => rfl
      have x1 : ∀ S, ixD S (.tup [.int (N : Int), .tup ((every.mergeSort leP).map eP)]) (.int 1) = some (.tup ((every.mergeSort leP).map eP)) := fun S => rfl
      obtain ⟨r0, S5, e5, r5, w5, n5⟩ := p_a_round x0 x1 (by omega) (by omega) dk r4.deck (by omega) m1 m6
      obtain ⟨k2, S6, e6, a6, b6, r6⟩ := p_pick (m := g) r5.deck (by omega) (by omega) (by omega)
      have bg6 := big62_of (i := k2) (by omega) (by omega)
      simp [sort_pairs (l := every) (le_line (by omega)), two, one, e5, e6, range_one bg6]
      have l0 := row_len w5
      refine for_go (P := fun q => P (So.bnd q _).out) (en := fun i : Nat => D.int (i : Int)) (List.range k2.toNat) (fun xs sd S' => ∃ rs sz y z, sd = [.val (.loc j), .val (.int m), .val (.int g), .val (.int (N : Int)), .val (.lst (every.map eP)), x, .val (.tup [.int (N : Int), .tup ((every.mergeSort leP).map eP)]), .val (.tup (rs.map eR)), .val (.int sz), y, z, .un] ∧
        rs ≠ [] ∧ (rs.length : Int) + xs.length ≤ 3 ∧ (∀ r ∈ rs, rowB r (N : Int) (every.mergeSort leP) m = true ∧ nearB (every.mergeSort leP) (lastI r) (headI r) = true) ∧ prodB rs 1 ≤ 36 ∧ 0 < sz ∧ (∀ r, rs.getLast? = some r → prodB rs 1 ≤ sz * (r.length : Int)) ∧ ∃ c', Drawn j c' S S' ∧ c' + 10 * xs.length ≤ c + 90) ?_ ?_ ?_
      · rintro t xs sd S7 ⟨rs, sz, y, z, rfl, hrs, hl, hr, hp36, hsz, hps, c7, r7, hc7⟩
        simp only [List.length_cons] at hl hc7
        obtain ⟨l, rl, rfl⟩ := lastR rs hrs
        have hrl := row_len (hr rl (by simp)).1
        have hps' := hps rl (by simp)
        obtain ⟨row, S8, e8, r8, w8, n8⟩ := p_a_round x0 x1 (by omega) (by omega) dk r7.deck (by omega) m1 m6
        have hrow := row_len w8
        have m1' : mulD (.int sz) (.int (rl.length : Int)) = some (.int (sz * (rl.length : Int))) := by
          rw [mulD_int, if_pos (.inr ⟨by omega, by omega⟩)]
        have m2' : mulD (.int (sz * (rl.length : Int))) (.int (row.length : Int)) = some (.int (sz * (rl.length : Int) * (row.length : Int))) := by
          rw [mulD_int, if_pos (.inr ⟨by omega, by omega⟩)]
        have ixl : ixD S8 (.tup (l.map eR ++ [eR rl])) (.int (-1)) = some (eR rl) := ixT_last _ _ _
        have hadd : addD (.tup (l.map eR ++ [eR rl])) (.tup [eR row]) = some (.tup ((l ++ [rl] ++ [row]).map eR)) := by
          simp only [List.length_append, List.length_cons, List.length_nil] at hl
          rw [addD_tup (by simp; exact le_line (by omega))]
          simp
        have sp : 0 < sz * (rl.length : Int) := Int.mul_pos hsz (by omega)
        refine ⟨[.val (.loc j), .val (.int m), .val (.int g), .val (.int (N : Int)), .val (.lst (every.map eP)), x, .val (.tup [.int (N : Int), .tup ((every.mergeSort leP).map eP)]), .val (.tup ((l ++ [rl]).map eR)), .val (.int sz), .val (.int (t : Int)), z, .un], by simp, ?_⟩
        by_cases h36 : sz * (rl.length : Int) * (row.length : Int) ≤ 36
        · refine sat_of [.val (.loc j), .val (.int m), .val (.int g), .val (.int (N : Int)), .val (.lst (every.map eP)), x, .val (.tup [.int (N : Int), .tup ((every.mergeSort leP).map eP)]), .val (.tup ((l ++ [rl] ++ [row]).map eR)), .val (.int (sz * (rl.length : Int))), .val (.int (t : Int)), .val (eR row), .un] S8 (by simp [e8, ixl, m1', m2', h36, one, hadd]) ?_
          refine ⟨l ++ [rl] ++ [row], sz * (rl.length : Int), _, _, rfl, by simp, by simp at hl ⊢; omega, ?_, ?_, sp, ?_, c7 + 8, r7.trans r8, by omega⟩
          · intro r hr'
            have hr'' : r ∈ (l ++ [rl]) ∨ r = row := by simpa [or_assoc] using hr'
            rcases hr'' with q | q
            · exact hr r q
            · rw [q]; exact ⟨w8, n8⟩
          · have := prod_snoc (l ++ [rl]) row 1
            rw [this]
            exact Int.le_trans (Int.mul_le_mul_of_nonneg_right hps' (by omega)) h36
          · intro r hr'
            have : r = row := by simpa using hr'.symm
            subst this
            have := prod_snoc (l ++ [rl]) r 1
            rw [this]
            exact Int.mul_le_mul_of_nonneg_right hps' (by omega)
        · refine sat_of [.val (.loc j), .val (.int m), .val (.int g), .val (.int (N : Int)), .val (.lst (every.map eP)), x, .val (.tup [.int (N : Int), .tup ((every.mergeSort leP).map eP)]), .val (.tup ((l ++ [rl]).map eR)), .val (.int (sz * (rl.length : Int))), .val (.int (t : Int)), .val (eR row), .un] S8 (by simp [e8, ixl, m1', m2', h36]) ?_
          refine ⟨l ++ [rl], sz * (rl.length : Int), _, _, rfl, by simp, by simp at hl ⊢; omega, hr, hp36, sp, ?_, c7 + 8, r7.trans r8, by omega⟩
          intro r hr'
          have : r = rl := by simpa using hr'.symm
          subst this
          refine Int.le_trans hps' ?_
          have := Int.mul_le_mul_of_nonneg_left (a := 1) (b := (r.length : Int)) (c := sz * (r.length : Int)) (by omega) (by omega)
          rw [Int.mul_one] at this
          exact this
      · refine ⟨[r0], 1, _, _, by simp; exact ⟨rfl, rfl⟩, by simp, by simp; omega, fun r hr => by rw [List.mem_singleton.mp hr]; exact ⟨w5, n5⟩, by simp [prodB]; omega, by omega, fun r hr => ?_, c4 + 8 + 1, (r4.trans r5).trans r6, by rw [List.length_range]; omega⟩
        have : r = r0 := by simpa using hr.symm
        rw [this]
        simp [prodB]
      · rintro sd' S7 ⟨rs, sz, y, z, rfl, hrs, hl, hr, hp36, hsz, hps, c7, r7, hc7⟩
        have hadd : addD (.tup [.int (N : Int), .tup ((every.mergeSort leP).map eP)]) (.tup [.tup (rs.map eR)]) = some (eH ⟨(N : Int), every.mergeSort leP, rs⟩) := by
          rw [addD_tup (by simp; exact le_line (by omega))]
          rfl
        simp [one, hadd]
        have hl1 := List.length_pos_iff.mpr hrs
        simp only [List.length_nil] at hl
        refine hP _ _ (r7.mono (by simp at hc7; omega)) ⟨⟨by show (2 : Int) ≤ (N : Int); omega, by show (N : Int) ≤ 6; omega, dk.doorsB dne, hl1, by show rs.length ≤ 3; omega, fun r hr' => ?_, fun r hr' => (hr r hr').2, by show prodB rs 1 ≤ 60; omega⟩, by show (N : Int) ≤ 5; omega, fun r hr' => (row_len (hr r hr').1).2, hp36⟩
        have hb := (hr r hr').1
        exact (rowIn hb).rowB (by have := row_len hb; omega)
    by_cases h2 : 2 < N
    · obtain ⟨k3, S4, e4, a4, b4, r4⟩ := p_pick (m := 6) r3.deck (by simp at hc'; omega) (by omega) (by omega)
      have h2' : (2 : Int) < (N : Int) := by omega
      by_cases hk : k3 = 0
      · have hcut : slD (.lst ((baseB N ++ more).map eP)) (some 1) none = some (.lst (((baseB N ++ more).drop 1).map eP)) := by
          show some (D.lst (cutD ((baseB N ++ more).map eP) (some 1) none)) = _
          rw [cut1, List.map_drop]
        rw [sbnd_nx, seqF_ap]
        refine out_bnd [.val (.loc j), .val (.int m), .val (.int g), .val (.int (N : Int)), .val (.lst (((baseB N ++ more).drop 1).map eP)), x, .un, .un, .un, .un, .un, .un] S4 ?_ (go ((baseB N ++ more).drop 1) S4 (c' + 1) (fun z => ?_) ((List.drop_sublist _ _).trans hsub) (r3.trans r4) (by simp at hc'; omega))
        · simp only [ofM_ap, andT_ap, valT_ap, opE_ap, getb_ap, getv_ap, litE_ap, callE_ap, consA_ap, nilA_ap, List.getElem?_cons_zero, List.getElem?_cons_succ, slotB_val, slotR_val, bnd_ok, cmp_gt_int, gt_iff_lt, h2', decide_true, liftR_some, asB_bl, if_true, e4, cmp_eq_int, hk, stm_ok, ifF_ap, seqF_ap, slE_ap, partO_some, partO_none, asI_int, hcut, setF_ap, List.set_cons_succ, List.set_cons_zero, sbnd_nx, nxF_ap]
        · have := congrArg List.length z
          rw [List.length_drop, List.length_append, bl] at this
          simp only [List.length_nil] at this
          omega
      · rw [sbnd_nx, seqF_ap]
        refine out_bnd [.val (.loc j), .val (.int m), .val (.int g), .val (.int (N : Int)), .val (.lst ((baseB N ++ more).map eP)), x, .un, .un, .un, .un, .un, .un] S4 ?_ (go (baseB N ++ more) S4 (c' + 1) (fun z => ?_) hsub (r3.trans r4) (by simp at hc'; omega))
        · simp [h2', e4, cmp_eq_int, hk]
        · have := congrArg List.length z
          rw [List.length_append, bl] at this
          simp only [List.length_nil] at this
          omega
    · have h2' : ¬ (2 : Int) < (N : Int) := by omega
      rw [sbnd_nx, seqF_ap]
      refine out_bnd [.val (.loc j), .val (.int m), .val (.int g), .val (.int (N : Int)), .val (.lst ((baseB N ++ more).map eP)), x, .un, .un, .un, .un, .un, .un] S3 ?_ (go (baseB N ++ more) S3 c' (fun z => ?_) hsub r3 (by simp at hc'; omega))
      · simp [h2, h2']
      · have := congrArg List.length z
        rw [List.length_append, bl] at this
        simp only [List.length_nil] at this
        omega
theorem p_a_walk {h : HS} (H : HouseOk h) {S : List MO} {j c : Nat} (d : DeckAt S j c) (hc : c ≤ 10000000) {m : Int} (m1 : 1 ≤ m) (m6 : m ≤ 1000) :
    ∃ r S', g__law_a_walk [.loc j, eH h, .int m] S = .ok (eR r) S' ∧ Drawn j (c + 1000) S S' ∧ RowIn h.n h.doors r ∧ (r.length : Int) = m := by
  have one : 1 ≤ sizeLine := by decide
  have dk := doorsOk H.d
  have n2 := H.n2
  have n6 := H.n6
  have hby := fun r S => p_by (hd := eH h) (doors := h.doors) (fun S => rfl) (by have := dk.few; omega) r S
  obtain ⟨k1, S1, e1, a1, b1, r1⟩ := p_pick (m := h.n) d (by omega) (by omega) (by omega)
  have bg := big62_of (i := m - 1) (by omega) (by omega)
  suffices hs : ∀ P : Res D → Prop, (∀ r S', Drawn j (c + 1000) S S' → RowIn h.n h.doors r → (r.length : Int) = m → P (.ok (eR r) S')) → P (g__law_a_walk [.loc j, eH h, .int m] S) by
    exact hs (fun q => ∃ r S', q = .ok (eR r) S' ∧ Drawn j (c + 1000) S S' ∧ RowIn h.n h.doors r ∧ (r.length : Int) = m) fun r S' h1 h2 h3 => ⟨r, S', rfl, h1, h2, h3⟩
  intro P hP
  simp [g__law_a_walk, F__law_a_walk, sd0, e1, one, range_one bg]
  refine for_go (P := fun q => P (So.bnd q _).out) (en := fun i : Nat => D.int (i : Int)) (List.range (m.toNat - 1)) (fun xs sd S' => ∃ row x, sd = [.val (.loc j), .val (eH h), .val (.int m), .own (row.map .int), x] ∧ RowIn h.n h.doors row ∧ (row.length : Int) + xs.length = m ∧ ∃ c', Drawn j c' S S' ∧ c' + xs.length ≤ c + 1000) ?_ ?_ ?_
  · rintro t xs sd S3 ⟨row, x, rfl, hr, hl, c', r3, hc'⟩
    refine ⟨[.val (.loc j), .val (eH h), .val (.int m), .own (row.map .int), .val (.int (t : Int))], by simp, ?_⟩
    simp only [List.length_cons] at hl hc'
    have bl := by_len (doors := h.doors) (lastI row)
    have df := dk.few
    have ha : addD (.lst [.int (lastI row)]) (.lst ((byB h.doors (lastI row)).map .int)) = some (.lst ((lastI row :: byB h.doors (lastI row)).map .int)) := by
      rw [addD_lst (by simp; exact le_line (by omega))]; rfl
    obtain ⟨x, hx, S4, e4, r4⟩ := p_one (ds := (lastI row :: byB h.doors (lastI row)).map .int) r3.deck (by omega) (by simp) (by simp; omega)
    obtain ⟨y, hy, rfl⟩ := List.mem_map.mp hx
    have hy' : nearB h.doors (lastI row) y = true ∧ 0 ≤ y ∧ y < h.n := by
      rcases List.mem_cons.mp hy with q | q
      · subst q
        have := hr.inr _ (lastI_mem hr.ne)
        exact ⟨near_refl _ _, this⟩
      · exact by_near dk q
    have hrl : row.length < sizeLine := lt_line (by omega)
    have ixl := ixLl hr.ne S3
    refine sat_of [.val (.loc j), .val (eH h), .val (.int m), .own ((row ++ [y]).map .int), .val (.int (t : Int))] S4 ?_ ?_
    · have q : (callE g__law_one (consA (getv 0) (consA (opE addD (lstE (consA (ixE (getb 3) (negE (litE (.int 1)))) nilA)) (callE g__law_by (consA (getv 1) (consA (ixE (getb 3) (negE (litE (.int 1)))) nilA)))) nilA))) [.val (.loc j), .val (eH h), .val (.int m), .own (row.map .int), .val (.int (t : Int))] S3 = .ok (.int y) S4 := by
        simp only [callE_ap, consA_ap, getv_ap, opE_ap, lstE_ap, ixE_ap, getb_ap, negE_ap, litE_ap, nilA_ap, List.getElem?_cons_zero, List.getElem?_cons_succ, slotR_val, slotB_own, bnd_ok, negM_int, ixl, liftR_some, List.length_cons, List.length_nil, Nat.zero_add, if_pos one, hby, ha, e4]
      rw [seqF_ap]
      have st : (appF 3 (callE g__law_one (consA (getv 0) (consA (opE addD (lstE (consA (ixE (getb 3) (negE (litE (.int 1)))) nilA)) (callE g__law_by (consA (getv 1) (consA (ixE (getb 3) (negE (litE (.int 1)))) nilA)))) nilA)))) [.val (.loc j), .val (eH h), .val (.int m), .own (row.map .int), .val (.int (t : Int))] S3 = .nx [.val (.loc j), .val (eH h), .val (.int m), .own ((row ++ [y]).map .int), .val (.int (t : Int))] S4 := by
        unfold appF
        simp only [List.getElem?_cons_zero, List.getElem?_cons_succ, q, List.length_map, if_pos hrl, List.set_cons_succ, List.set_cons_zero, List.map_append, List.map_cons, List.map_nil]
      rw [st, sbnd_nx]; rfl
    · exact ⟨row ++ [y], _, rfl, hr.snoc hy'.2 hy'.1, by simp; omega, c' + 1, r3.trans r4, by omega⟩
  · exact ⟨[k1], _, rfl, ⟨by simp, fun x hx => by rw [List.mem_singleton.mp hx]; exact ⟨a1, b1⟩, fun i hi => by simp at hi⟩, by simp; omega, c + 1, r1, by simp; omega⟩
  · rintro sd' S3 ⟨row, x, rfl, hr, hl, c', r3, hc'⟩
    simp
    exact hP row S3 (r3.mono (by simp at hc'; omega)) hr (by simpa using hl)
theorem eR_tup (r : List Int) : eR r = .tup (r.map .int) := rfl
theorem need_ok {h : HS} (H : HouseOk h) (S : List MO) : g_need_house [eH h] S = .ok .non S := by
  rw [p_need_house (p_is_house H S)]; rfl
theorem walk_ok {h : HS} {w : List Int} (hr : RowIn h.n h.doors w) (hw : w.length ≤ 100) (S : List MO) : g_need_walk [eH h, eR w] S = .ok .non S := by
  have q := p_is_row w h.n h.doors 100 (by omega) S
  rw [hr.rowB (by omega)] at q
  have q' : g_need_walk [eH h, eR w] S = _ := p_need_walk q
  rw [q']; rfl
def sightsB (h : HS) (b w : List Int) : List (Int × List Int) := (List.range w.length).map fun t : Nat => seenB h b (t : Int) (w.getD t 0)
theorem fold_grow : ∀ (rs : List (List Int)) (found : List (List Int)) (b : List Int), b ∈ rs.foldl grow found → ∃ a t, a ∈ found ∧ b = a ++ t ∧ t.length = rs.length ∧ ((t.zip rs).all fun p => inB (p.2.length : Int) p.1) = true
  | [], found, b, h => ⟨b, [], h, by simp, rfl, rfl⟩
  | r :: rs, found, b, h => by
    obtain ⟨a', t, ha, rfl, ht, hz⟩ := fold_grow rs (grow found r) b h
    unfold grow at ha
    obtain ⟨a, haf, ha⟩ := List.mem_flatMap.mp ha
    obtain ⟨i, hi, rfl⟩ := List.mem_map.mp ha
    have hi' := List.mem_range.mp hi
    refine ⟨a, (i : Int) :: t, haf, by simp, by simp [ht], ?_⟩
    rw [List.zip_cons_cons, List.all_cons, hz, Bool.and_true]
    unfold inB
    simp only [Bool.and_eq_true, decide_eq_true_eq]
    omega
theorem starts_begin {h : HS} {b : List Int} (hb : b ∈ startsB h) : beginsB h b = true := by
  obtain ⟨a, t, ha, rfl, ht, hz⟩ := fold_grow h.rounds [[]] b hb
  rw [List.mem_singleton.mp ha, List.nil_append]
  unfold beginsB
  rw [hz, ht]
  simp
theorem fold_grow_ne : ∀ (rs : List (List Int)) (found : List (List Int)), (∀ r ∈ rs, r ≠ []) → found ≠ [] → rs.foldl grow found ≠ []
  | [], _, _, h => h
  | r :: rs, found, hr, h => by
    refine fold_grow_ne rs (grow found r) (fun x hx => hr x (List.mem_cons_of_mem _ hx)) ?_
    cases found with
    | nil => exact absurd rfl h
    | cons a l =>
      have hl := List.length_pos_iff.mpr (hr r (List.mem_cons_self ..))
      intro z
      have := congrArg List.length z
      unfold grow at this
      rw [List.flatMap_cons, List.length_append, List.length_map, List.length_range] at this
      simp only [List.length_nil] at this
      omega
theorem starts_ne {h : HS} (R : RowsOk h) : startsB h ≠ [] := fold_grow_ne _ _ (fun r hr => (R.row r hr).1) (by simp)
theorem same_oI (o : Option Int) : sameOk 8 (oI o) := by
  cases o <;> exact True.intro
theorem same_ints {n : Nat} (l : List Int) : ∀ d ∈ l.map D.int, sameOk (n + 1) d := by
  intro d hd
  obtain ⟨i, _, rfl⟩ := List.mem_map.mp hd
  exact True.intro
theorem seen_len (h : HS) (h6 : h.n ≤ 6) (b : List Int) (t room : Int) : (seenB h b t room).2.length ≤ 6 := by
  unfold seenB
  exact Nat.le_trans (List.length_filter_le _ _) (nextDoor_len h h6 room)
theorem same_eG {n : Nat} (p : Int × List Int) (hp : p.2.length ≤ 100) : sameOk (n + 3) (eG p) := by
  refine ⟨by show 2 < sizeLine; decide, fun d hd => ?_⟩
  rcases List.mem_cons.mp hd with e | hd
  · rw [e]; exact True.intro
  · rw [List.mem_singleton.mp hd]
    exact ⟨by rw [List.length_map]; exact lt_line (by omega), same_ints _⟩
theorem same_sights {h : HS} (h6 : h.n ≤ 6) (b w : List Int) (hw : w.length ≤ 100) : sameOk 8 (.lst ((sightsB h b w).map eG)) := by
  refine ⟨by simp [sightsB]; exact lt_line (by omega), fun d hd => ?_⟩
  obtain ⟨p, hp, rfl⟩ := List.mem_map.mp hd
  obtain ⟨t, _, rfl⟩ := List.mem_map.mp hp
  exact same_eG (n := 4) _ (Nat.le_trans (seen_len h h6 b _ _) (by omega))
theorem cmp_ne_same {d : D} (h : ok60 d = true) (e : eqD d d = true) : cmpD .NotEq d d = some (.bl false) := by
  have q : cmpD .NotEq d d = if ok60 d && ok60 d then some (.bl (!eqD d d)) else none := rfl
  rw [q, h, e]; rfl
theorem tryE_exc {lab : Nat → Str} {f : EF} {sd : List SV} {S : List MO} {k : Nat} (hk : k < 15) (h : f sd S = .exc ⟨k, none⟩ S) : tryE lab f sd S = .ok (.str (lab k)) S := by
  unfold tryE
  rw [h]
  simp [hk]
theorem no_house_exc (S : List MO) : g_need_house [.tup [.int 3, .tup [], .tup []]] S = .exc ⟨0, none⟩ S := by
  rw [p_need_house (p_no_house S)]; rfl
/-- what is no walk -/
def NoWalk (h : HS) (d : D) : Prop := ∀ S, g_need_walk [eH h, d] S = .exc ⟨4, none⟩ S
theorem noWalk_of {h : HS} {d : D} (hb : ∀ S, g_is_row [d, .int h.n, .tup (h.doors.map eP), .int 100] S = .ok (.bl false) S) : NoWalk h d := fun S => by
  have q := p_need_walk (hb S)
  rw [q]; rfl
theorem row_not {d a b : D} {S : List MO} (hi : g_has_items [d, .int 1, .int 100] S = .ok (.bl false) S) : g_is_row [d, a, b, .int 100] S = .ok (.bl false) S := by
  simp [g_is_row, F_is_row, sd0, hi]
theorem noWalk_non {h : HS} : NoWalk h .non := noWalk_of fun S => row_not (p_has_items_non _ _ S)
theorem noWalk_lst {h : HS} (ds : List D) : NoWalk h (.lst ds) := noWalk_of fun S => row_not (p_has_items_lst _ _ _ S)
theorem noWalk_eR {h : HS} {w : List Int} (hw : w.length < 1000000) (hb : rowB w h.n h.doors 100 = false) : NoWalk h (eR w) := noWalk_of fun S => by
  have q := p_is_row w h.n h.doors 100 hw S
  rw [hb] at q
  exact q
theorem p_within_bl (b : Bool) (lo hi : Int) (S : List MO) : g_is_within [.bl b, .int lo, .int hi] S = .ok (.bl false) S := by
  simp [g_is_within, F_is_within, sd0]
theorem noWalk_true {h : HS} : NoWalk h (.tup [.bl true]) := noWalk_of fun S => by
  have hi : g_has_items [.tup [.bl true], .int 1, .int 100] S = .ok (.bl true) S := p_has_items _ _ _ _
  have q := compF_map (S := S) (it := seqI (getv 0)) (t := .nm 4) (vs := [4]) (c := yesT) (e := callE g_is_within (consA (getv 4) (consA (litE (.int 0)) (consA (opE subD (getb 1) (litE (.int 1))) nilA))))
    (sd := [.val (.tup [.bl true]), .val (.int h.n), .val (.tup (h.doors.map eP)), .val (.int 100), .un, .un, .un]) [true] .bl (fun _ => .bl false) (by simp) (by decide) (fun x _ => by simp [turnM_ap, p_within_bl])
  have a : allD [D.lst [.bl false]] = some (.bl false) := by rfl
  simp [g_is_row, F_is_row, sd0, hi, q, a]
theorem cut_to (ds : List D) : cutD ds none (some 10) = ds.take 10 := by
  unfold cutD
  have e0 : HT.sIx ds.length 0 none = 0 := rfl
  have e1 : HT.sIx ds.length ds.length (some 10) = min 10 ds.length := by
    show (if (10 : Int) < 0 then ((10 : Int) + (ds.length : Int)).toNat else min (10 : Int).toNat ds.length) = _
    rw [if_neg (by omega)]
    rfl
  rw [e0, e1, List.drop_zero, Nat.sub_zero]
  by_cases h : 10 ≤ ds.length
  · rw [Nat.min_eq_left h]
  · rw [Nat.min_eq_right (by omega), List.take_length, List.take_of_length_le (by omega)]
theorem slot_val {i : Nat} {sd : List SV} {d : D} {S : List MO} (h : sd[i]? = some (.val d)) : getv i sd S = .ok d S := by simp [h]
theorem callvE_ap {gt : GT} {i : Nat} {h : AF} {sd : List SV} {S S1 : List MO} {f : Nat} {g : List D → M D} {ds : List D} (hi : sd[i]? = some (.val (.fn f))) (hg : gt f = some g) (hh : h sd S = .ok ds S1) : callvE gt i h sd S = g ds S1 := by
  have e : callvE gt i h sd S = (getv i sd >>= callK gt (h sd)) S := rfl
  rw [e, bind_bnd, slot_val hi, bnd_ok]
  show goK (h sd) (gt f) S = _
  rw [hg]
  show (h sd >>= g) S = _
  rw [bind_bnd, hh, bnd_ok]
theorem lab_ne (k : Nat) (hk : k < 15) : cmpD .NotEq (.str (labK k)) (.str (labK k)) = some (.bl false) := by
  refine cmp_ne_same ?_ (by simp [eqD, D.py, PyData.eqv])
  have all : ∀ k, k < 15 → k = 0 ∨ k = 1 ∨ k = 2 ∨ k = 3 ∨ k = 4 ∨ k = 5 ∨ k = 6 ∨ k = 7 ∨ k = 8 ∨ k = 9 ∨ k = 10 ∨ k = 11 ∨ k = 12 ∨ k = 13 ∨ k = 14 := by omega
  rcases all k hk with z | z | z | z | z | z | z | z | z | z | z | z | z | z | z <;> subst z <;> decide +kernel
theorem mulD_lst {x : List D} {k : Int} (h : -(2 ^ 63) ≤ k ∧ k < 2 ^ 63 ∧ x.length * k.toNat ≤ sizeLine) : mulD (.lst x) (.int k) = some (.lst (List.replicate k.toNat x).flatten) := by
  show (if -(2 ^ 63) ≤ k ∧ k < 2 ^ 63 ∧ x.length * k.toNat ≤ sizeLine then some (D.lst (List.replicate k.toNat x).flatten) else none) = _
  rw [if_pos h]
theorem allD_map2 {α : Type} (f : α → Bool) (l : List α) : allD [D.lst (List.map (fun b => D.bl b) (List.map f l))] = some (.bl (l.all f)) := by
  rw [List.map_map]; exact allD_map f l
def ascI (l : List Int) : Bool := (l.zip l.tail).all fun p => decide (p.1 < p.2)
theorem p_ascends_ints (l : List Int) (hl : l.length < 1000000) (S : List MO) : g_ascends [eR l] S = .ok (.bl (ascI l)) S := by
  have hs : l.length < sizeLine := lt_line (by omega)
  have hz : zipM [eR l, .tup (l.map D.int).tail] S = .ok ((l.zip l.tail).map eP) S := by
    show zipM [.tup (l.map .int), .tup (l.map D.int).tail] S = _
    rw [zipM_tup, zip_map]
  have hsl : slD (eR l) (some 1) none = some (.tup (l.map D.int).tail) := by
    show some (D.tup (cutD (l.map .int) (some 1) none)) = _
    rw [cut1, List.drop_one]
  simp [g_ascends, F_ascends, sd0]
  rw [compF_map2 (l.zip l.tail) eP (fun p => decide (p.1 < p.2)) (fun b : Bool => .bl b) (by simp [hsl, hz, -List.map_tail]) (by simp; omega) (fun p _ => by simp [turnM_ap])]
  simp [ascI, allD_map]
theorem asc_int : ∀ {l : List Int}, l.Pairwise (· < ·) → ascI l = true
  | [], _ => rfl
  | [_], _ => rfl
  | p :: q :: l, h => by
    rw [List.pairwise_cons] at h
    have ih := asc_int h.2
    unfold ascI at *
    simp only [List.tail_cons, List.zip_cons_cons, List.all_cons, Bool.and_eq_true] at *
    exact ⟨by simpa using h.1 q (List.mem_cons_self ..), by simpa using ih⟩
@[simp] theorem ixG0 {p : Int × List Int} {S} : ixD S (eG p) (.int 0) = some (.int p.1) := nrf rfl
@[simp] theorem ixG1 {p : Int × List Int} {S} : ixD S (eG p) (.int 1) = some (eR p.2) := nrf rfl
@[simp] theorem asgT_eG {ts : List Tg} {p : Int × List Int} {sd : List SV} : asgT (.tp ts) (eG p) sd = if 2 = ts.length then asgA ts [.int p.1, eR p.2] sd else none := nrf rfl
def sgB (h : HS) (p : Int × List Int) : Bool := inB h.n p.1 && decide (p.2.length ≤ 5) && p.2.all (inB h.n) && ascI p.2 && p.2.all fun o => decide (o ∈ nextDoor h p.1)
theorem p_has_eR (l : List Int) (lo hi : Int) (S : List MO) : g_has_items [eR l, .int lo, .int hi] S = .ok (.bl (decide (lo ≤ l.length) && decide ((l.length : Int) ≤ hi))) S := by
  have q := p_has_items (l.map .int) lo hi S
  rw [List.length_map] at q
  exact q
def sightsOkB (h : HS) (ss : List (Int × List Int)) (most : Int) : Bool := decide (1 ≤ (ss.length : Int)) && decide ((ss.length : Int) ≤ most) && ss.all (sgB h) && rowB (ss.map (·.1)) h.n h.doors most
theorem six_pow {h : HS} (R : RowsOk h) : 6 ^ h.rounds.length ≤ 216 := by
  have := Nat.pow_le_pow_right (n := 6) (by omega) R.few
  simpa using this
theorem p_all_beginnings {h : HS} (R : RowsOk h) (S : List MO) : g_all_beginnings [eH h] S = .ok (.lst ((startsB h).map eR)) S := by
  have one : 1 ≤ sizeLine := by decide
  have zero : 0 ≤ sizeLine := by decide
  simp [g_all_beginnings, F_all_beginnings, sd0, one, zero]
  refine for_go (P := fun r => (So.bnd r _).out = _) (en := eR) h.rounds (fun rs sd S' => S' = S ∧ (∀ r ∈ rs, r.length ≤ 6) ∧ ∃ found x, sd = [.val (eH h), .val (.lst (found.map eR)), x, .un, .un] ∧ rs.foldl grow found = startsB h ∧ found.length * 6 ^ rs.length ≤ 216 ∧ ∀ b ∈ found, b.length + rs.length ≤ 3) ?_ ?_ ?_
  · rintro r rs sd S' ⟨rfl, hr, found, x, rfl, hf, hl, hb⟩
    have h6 := hr r (List.mem_cons_self ..)
    have bg := big62_of (i := (r.length : Int)) (by omega) (by omega)
    have hl1 : found.length ≤ 216 := Nat.le_trans (Nat.le_mul_of_pos_right _ (Nat.pow_pos (by omega))) hl
    refine ⟨[.val (eH h), .val (.lst (found.map eR)), .val (eR r), .un, .un], by simp, ?_⟩
    refine sat_of [.val (eH h), .val (.lst ((grow found r).map eR)), .val (eR r), .un, .un] S' ?_ ?_
    · simp
      rw [compF2_map found eR (fun b => ((List.range r.length).map fun i : Nat => b ++ [(i : Int)]).map eR) (by simp) (by omega) (fun b hb' => by
        have hbl := hb b hb'
        simp only [List.length_cons] at hbl
        have ha : ∀ i : Int, addD (eR b) (.tup [.int i]) = some (eR (b ++ [i])) := fun i => by
          unfold eR
          rw [addD_tup (by simp; exact le_line (by omega)), List.map_append]; rfl
        rw [turn2M_ap]
        simp [range_one bg]
        rw [few_ap (by simp; omega)]
        simp only [bnd_ok]
        have q := compM_fil (f := turnM (.nm 4) [4] [.val (eH h), .val (.lst (found.map eR)), .val (eR r), .val (eR b), .un] yesT (opE addD (getb 3) (tupE (consA (getv 4) nilA)))) (en := fun i : Nat => D.int (i : Int)) (S := S') (fun _ => true) (fun i : Nat => eR (b ++ [(i : Int)])) (List.range r.length) (fun i hi => by simp [turnM_ap, one, ha])
        rw [q, List.filter_eq_self.mpr (fun _ _ => rfl)]
        rfl)]
      simp only [bnd_ok, stm_ok, setF_ap, sbnd_nx, nxF_ap, List.set_cons_succ, List.set_cons_zero]
      have e : (found.flatMap fun b => ((List.range r.length).map fun i : Nat => b ++ [(i : Int)]).map eR) = (grow found r).map eR := by
        unfold grow
        rw [List.map_flatMap]
      rw [e]
    · refine ⟨rfl, fun q hq => hr q (List.mem_cons_of_mem _ hq), grow found r, _, rfl, hf, ?_, ?_⟩
      · have := grow_len found r h6
        rw [List.length_cons, Nat.pow_succ] at hl
        calc (grow found r).length * 6 ^ rs.length ≤ (6 * found.length) * 6 ^ rs.length := Nat.mul_le_mul_right _ this
          _ = found.length * (6 ^ rs.length * 6) := by rw [Nat.mul_comm 6, Nat.mul_assoc, Nat.mul_comm 6]
          _ ≤ 216 := hl
      · intro c hc
        unfold grow at hc
        obtain ⟨b, hb', hc⟩ := List.mem_flatMap.mp hc
        obtain ⟨i, _, rfl⟩ := List.mem_map.mp hc
        have := hb b hb'
        simp only [List.length_cons, List.length_append, List.length_nil] at *
        omega
  · exact ⟨rfl, fun r hr => (R.row r hr).2, [[]], _, rfl, rfl, by simpa using six_pow R, fun b hb => by
      have := R.few
      rw [List.mem_singleton.mp hb]
      simpa using this⟩
  · rintro sd' S' ⟨rfl, _, found, x, rfl, hf, _, _⟩
    have e : found = startsB h := hf
    subst e
    simp
theorem py_ints (l : List Int) : pyA (l.map .int) = l.map .int := by
  induction l with
  | nil => rfl
  | cons i l ih =>
    show PyData.int i :: pyA (l.map .int) = _
    rw [ih]; rfl
theorem eqA_ints : ∀ (a b : List Int), PyData.eqvAll (pyA (a.map .int)) (pyA (b.map .int)) = decide (a = b)
  | [], [] => rfl
  | [], _ :: _ => rfl
  | _ :: _, [] => rfl
  | x :: a, y :: b => by
    have ih := eqA_ints a b
    show (PyData.eqv (.int x) (.int y) && PyData.eqvAll (pyA (a.map .int)) (pyA (b.map .int))) = _
    rw [ih]
    by_cases h : x = y <;> by_cases h' : a = b <;> simp [PyData.eqv, h, h']
theorem eq_eR (a b : List Int) : eqD (eR a) (eR b) = decide (a = b) := by
  have e := eqA_ints a b
  simp [eqD, eR, D.py, PyData.eqv, e]
theorem eq_eG (p q : Int × List Int) : eqD (eG p) (eG q) = decide (p = q) := by
  obtain ⟨a, b⟩ := p
  obtain ⟨c, d⟩ := q
  have e := eqA_ints b d
  by_cases h : a = c <;> by_cases h' : b = d <;> simp [eqD, eG, eR, D.py, pyA, PyData.eqv, PyData.eqvAll, eqA_ints, h, h']
theorem ok_eG (p : Int × List Int) (n : Nat) : okD (eG p) (n + 2) = true := by
  simp [eG, okD, okA, ok_int, ok_eR]
theorem cmp_eq_eG (p q : Int × List Int) : cmpD .Eq (eG p) (eG q) = some (.bl (decide (p = q))) := by
  have e : cmpD .Eq (eG p) (eG q) = if ok60 (eG p) && ok60 (eG q) then some (.bl (eqD (eG p) (eG q))) else none := rfl
  rw [e, show ok60 (eG p) = true from ok_eG p 58, show ok60 (eG q) = true from ok_eG q 58, eq_eG]; rfl
theorem cmp_ne_eG (p q : Int × List Int) : cmpD .NotEq (eG p) (eG q) = some (.bl (!decide (p = q))) := by
  have e : cmpD .NotEq (eG p) (eG q) = if ok60 (eG p) && ok60 (eG q) then some (.bl (!eqD (eG p) (eG q))) else none := rfl
  rw [e, show ok60 (eG p) = true from ok_eG p 58, show ok60 (eG q) = true from ok_eG q 58, eq_eG]; rfl
theorem cmp_isn_oI (o : Option Int) : cmpD .IsNot (oI o) .non = some (.bl o.isSome) := by cases o <;> rfl
theorem cmp_is_oI (o : Option Int) : cmpD .Is (oI o) .non = some (.bl o.isNone) := by cases o <;> rfl
theorem num_eG (ss : List (Int × List Int)) : numD 0 (ss.map eG) = (List.range ss.length).map fun i => .tup [.int (i : Int), eG (ss.getD i (0, []))] := by
  rw [num_gen eG (0, []) 0 ss]
  simp
def goesB (h : HS) (b : List Int) (ss : List (Int × List Int)) : Bool := (firstMet h b (ss.map fun p => p.1)).isNone && (List.range ss.length).all fun t => decide (seenB h b (t : Int) (ss.getD t (0, [])).1 = ss.getD t (0, []))
def leftB (h : HS) (ss : List (Int × List Int)) : List (List Int) := (startsB h).filter fun b => goesB h b ss
theorem fold_len : ∀ (rs : List (List Int)) (found : List (List Int)), ((rs.foldl grow found).length : Int) = prodB rs (found.length : Int)
  | [], _ => rfl
  | r :: rs, found => by
    have e : ((grow found r).length : Int) = (found.length : Int) * (r.length : Int) := by
      unfold grow
      induction found with
      | nil => simp
      | cons b l ih =>
        rw [List.flatMap_cons, List.length_append, List.length_map, List.length_range, Int.natCast_add, ih, List.length_cons]
        rw [Int.natCast_add, Int.add_mul]
        omega
    rw [List.foldl_cons, fold_len rs, e]
    rfl
theorem starts_len {h : HS} (H : HouseOk h) : (startsB h).length ≤ 60 := by
  have e := fold_len h.rounds [[]]
  have p := H.prod
  have z : ((startsB h).length : Int) = prodB h.rounds 1 := e
  omega
theorem left_len {h : HS} (H : HouseOk h) (ss : List (Int × List Int)) : (leftB h ss).length ≤ 60 := Nat.le_trans (List.length_filter_le _ _) (starts_len H)
theorem ixSG {ss : List (Int × List Int)} {t : Nat} (h : t < ss.length) (S : List MO) : ixD S (.tup (ss.map eG)) (.int (t : Int)) = some (eG (ss.getD t (0, []))) := by
  rw [ixs_tup (by simpa using h) S]
  simp [List.getD_eq_getElem?_getD, List.getElem?_map, List.getElem?_eq_getElem h]
theorem nextDoor_mem {h : HS} (H : HouseOk h) {room o : Int} (ho : o ∈ nextDoor h room) : 0 ≤ o ∧ o < h.n ∧ o ≠ room := by
  unfold nextDoor at ho
  obtain ⟨h1, h2⟩ := List.mem_filter.mp ho
  obtain ⟨i, hi, rfl⟩ := List.mem_map.mp h1
  have := List.mem_range.mp hi
  have n2 := H.n2
  simp only [Bool.and_eq_true, Bool.not_eq_true', decide_eq_false_iff_not] at h2
  exact ⟨by omega, by omega, h2.1⟩
theorem nextDoor_asc (h : HS) (room : Int) : (nextDoor h room).Pairwise (· < ·) := List.Pairwise.filter _ (range_asc _)
theorem count_room (n : Nat) (room : Int) (h0 : 0 ≤ room) (h1 : room < n) : (((List.range n).map fun i : Nat => (i : Int)).filter fun o => !decide (o = room)).length + 1 ≤ n := by
  have hm : room ∈ (List.range n).map fun i : Nat => (i : Int) := List.mem_map.mpr ⟨room.toNat, List.mem_range.mpr (by omega), by omega⟩
  have e := List.length_eq_countP_add_countP (fun o => !decide (o = room)) (l := (List.range n).map fun i : Nat => (i : Int))
  rw [List.length_map, List.length_range, List.countP_eq_length_filter] at e
  have p : 0 < ((List.range n).map fun i : Nat => (i : Int)).countP (fun a => decide ¬(!decide (a = room)) = true) := List.countP_pos_iff.mpr ⟨room, hm, by simp⟩
  omega
theorem nextDoor_five {h : HS} (H : HouseOk h) {room : Int} (h0 : 0 ≤ room) (h1 : room < h.n) : (nextDoor h room).length ≤ 5 := by
  have n2 := H.n2
  have n6 := H.n6
  have e := count_room h.n.toNat room h0 (by omega)
  have q : (nextDoor h room).length ≤ (((List.range h.n.toNat).map fun i : Nat => (i : Int)).filter fun o => !decide (o = room)).length := by
    unfold nextDoor
    rw [← List.countP_eq_length_filter, ← List.countP_eq_length_filter]
    refine List.countP_mono_left fun a _ ha => ?_
    simp only [Bool.and_eq_true] at ha
    exact ha.1
  omega
theorem sg_sub {h : HS} (H : HouseOk h) {room : Int} (h0 : 0 ≤ room) (h1 : room < h.n) {l : List Int} (hs : l.Sublist (nextDoor h room)) : sgB h (room, l) = true := by
  have n5 := nextDoor_five H h0 h1
  have le := hs.length_le
  unfold sgB inB
  simp only [Bool.and_eq_true, decide_eq_true_eq, List.all_eq_true]
  refine ⟨⟨⟨⟨by omega, by omega⟩, fun x hx => ?_⟩, asc_int ((nextDoor_asc h room).sublist hs)⟩, fun x hx => hs.subset hx⟩
  have := nextDoor_mem H (hs.subset hx)
  omega
theorem sg_seen {h : HS} (H : HouseOk h) {room : Int} (h0 : 0 ≤ room) (h1 : room < h.n) (b : List Int) (t : Int) : sgB h (seenB h b t room) = true := sg_sub H h0 h1 (List.filter_sublist)
structure SightsOk (h : HS) (ss : List (Int × List Int)) : Prop where
  one : 1 ≤ ss.length
  sg : ∀ p ∈ ss, sgB h p = true
  row : RowIn h.n h.doors (ss.map fun p => p.1)
theorem sg_few {h : HS} {p : Int × List Int} (hp : sgB h p = true) : p.2.length ≤ 5 := by
  unfold sgB at hp
  simp only [Bool.and_eq_true, decide_eq_true_eq] at hp
  exact hp.1.1.1.2
theorem SightsOk.okB {h : HS} {ss : List (Int × List Int)} (k : SightsOk h ss) {m : Int} (hm : (ss.length : Int) ≤ m) : sightsOkB h ss m = true := by
  have o := k.one
  unfold sightsOkB
  rw [k.row.rowB (by rw [List.length_map]; exact hm), List.all_eq_true.mpr k.sg]
  simp only [Bool.and_eq_true, decide_eq_true_eq, and_true]
  omega
theorem getD_mem_ {l : List Int} {i : Nat} (h : i < l.length) : l.getD i 0 ∈ l := by
  rw [List.getD_eq_getElem?_getD, List.getElem?_eq_getElem h]
  exact List.getElem_mem h
theorem rooms_in {h : HS} (H : HouseOk h) (b : List Int) (t : Int) : ∀ x ∈ roomsAt h b t, 0 ≤ x ∧ x < h.n := by
  intro x hx
  unfold roomsAt at hx
  obtain ⟨p, hp, rfl⟩ := List.mem_map.mp hx
  have hr := (List.of_mem_zip hp).2
  have hb := rowIn (H.rows p.2 hr)
  have hl := List.length_pos_iff.mpr hb.ne
  have h0 := Int.emod_nonneg (p.1 + t) (by omega : (p.2.length : Int) ≠ 0)
  have h1 := Int.emod_lt_of_pos (p.1 + t) (by omega : 0 < (p.2.length : Int))
  exact hb.inr _ (getD_mem_ (by omega))
theorem begins_len {h : HS} {b : List Int} (hb : beginsB h b = true) : b.length = h.rounds.length := by
  unfold beginsB at hb
  simp only [Bool.and_eq_true, decide_eq_true_eq] at hb
  exact hb.1
theorem ints_D (l : List Int) : intsD (l.map .int) = some l := by
  induction l with
  | nil => rfl
  | cons i l ih =>
    show (intsD (l.map .int)).map (i :: ·) = _
    rw [ih]; rfl
theorem rows_D (l : List (List Int)) : rowsD (l.map eR) = some l := by
  induction l with
  | nil => rfl
  | cons r l ih =>
    show (intsD (r.map .int)).bind (fun is => (rowsD (l.map eR)).map (is :: ·)) = _
    rw [ints_D, ih]; rfl
theorem setSort_rows {l : List (List Int)} (h : rowsOkB l = true) : setSortD (.lst (l.map eR)) = some (.lst ((usort l).map eR)) := by
  show (rowsD (l.map eR)).bind (fun rs => if rowsOkB rs then some (D.lst ((usort rs).map fun r => .tup (r.map .int))) else none) = _
  rw [rows_D]
  show (if rowsOkB l then some (D.lst ((usort l).map fun r => .tup (r.map .int))) else none) = _
  rw [h]; rfl
@[simp] theorem ssE_ap {f : EF} {sd S} : ssE f sd S = (f sd S).bnd fun d S1 => liftR (setSortD d) S1 := by simp only [ssE, bind_bnd, lift_ap]
/-- all rows of rooms -/
theorem rooms_rows {h : HS} (H : HouseOk h) (bs : List (List Int)) (hb : ∀ b ∈ bs, beginsB h b = true) (hl : bs.length < 64) (t : Int) : rowsOkB (bs.map fun b => roomsAt h b t) = true := by
  have r1 := H.r1
  have n6 := H.n6
  have len : ∀ b ∈ bs, (roomsAt h b t).length = h.rounds.length := fun b hm => by
    have := begins_len (hb b hm)
    simp [roomsAt, this]
  have hd : bs ≠ [] → lenHd (bs.map fun b => roomsAt h b t) = h.rounds.length := fun z => by
    cases bs with
    | nil => exact absurd rfl z
    | cons b l => exact len b (List.mem_cons_self ..)
  unfold rowsOkB
  simp only [Bool.and_eq_true, decide_eq_true_eq, List.all_eq_true, List.length_map, List.mem_map, forall_exists_index, and_imp, forall_apply_eq_imp_iff₂]
  refine ⟨⟨hl, ?_⟩, fun b hm => ?_⟩
  · by_cases z : bs = []
    · rw [z]; exact Nat.le_refl 1
    · rw [hd z]; exact r1
  · rw [hd (fun z => by rw [z] at hm; cases hm), len b hm]
    refine ⟨rfl, fun x hx => ?_⟩
    have := rooms_in H b t x hx
    omega
theorem left_begins {h : HS} {ss : List (Int × List Int)} {b : List Int} (hb : b ∈ leftB h ss) : beginsB h b = true := starts_begin (List.mem_filter.mp hb).1
theorem same_rows {n : Nat} {l : List (List Int)} (hl : l.length ≤ 100000) (hr : ∀ r ∈ l, r.length ≤ 100000) : sameOk (n + 3) (.lst (l.map eR)) := by
  refine ⟨by rw [List.length_map]; exact lt_line (by omega), fun d hd => ?_⟩
  obtain ⟨r, hm, rfl⟩ := List.mem_map.mp hd
  exact ⟨by rw [List.length_map]; have := hr r hm; exact lt_line (by omega), same_ints _⟩
theorem usort_mem {rs : List (List Int)} {x : List Int} : x ∈ usort rs ↔ x ∈ rs := by
  unfold usort
  rw [List.mem_mergeSort, List.mem_eraseDups]
theorem erase_len : ∀ (l : List (List Int)), l.eraseDups.length ≤ l.length := by
  intro l
  induction h : l.length using Nat.strongRecOn generalizing l with
  | ind n ih =>
    cases l with
    | nil => simp at h; simp
    | cons x l =>
      rw [List.eraseDups_cons, List.length_cons]
      have f := List.length_filter_le (fun b => !b == x) l
      rw [List.length_cons] at h
      have := ih _ (by omega) (l.filter fun b => !b == x) rfl
      omega
theorem usort_len (rs : List (List Int)) : (usort rs).length ≤ rs.length := by
  unfold usort
  rw [List.length_mergeSort]
  exact erase_len rs
def canB (h : HS) (ss : List (Int × List Int)) (late : Int) : List (List Int) := usort ((leftB h ss).map fun b => roomsAt h b ((ss.length : Int) - 1 + late))
theorem cut_nat (ds : List D) {k : Int} (h : 0 ≤ k) : cutD ds none (some k) = ds.take k.toNat := by
  unfold cutD
  have e0 : HT.sIx ds.length 0 none = 0 := rfl
  have e1 : HT.sIx ds.length ds.length (some k) = min k.toNat ds.length := by
    show (if k < 0 then (k + (ds.length : Int)).toNat else min k.toNat ds.length) = _
    rw [if_neg (by omega)]
  rw [e0, e1, List.drop_zero, Nat.sub_zero]
  by_cases z : k.toNat ≤ ds.length
  · rw [Nat.min_eq_left z]
  · rw [Nat.min_eq_right (by omega), List.take_length, List.take_of_length_le (by omega)]
theorem range_getD (w : List Int) : (List.range w.length).map (fun t => w.getD t 0) = w := by
  apply List.ext_getElem
  · simp
  · intro i h1 h2
    simp [List.getD_eq_getElem?_getD, List.getElem?_eq_getElem h2]
theorem sights_fst (h : HS) (b w : List Int) : (sightsB h b w).map (fun p => p.1) = w := by
  unfold sightsB
  rw [List.map_map]
  exact range_getD w
theorem sights_ok {h : HS} (H : HouseOk h) (b : List Int) {w : List Int} (hw : RowIn h.n h.doors w) : SightsOk h (sightsB h b w) := by
  have l := List.length_pos_iff.mpr hw.ne
  refine ⟨by simp [sightsB]; omega, fun p hp => ?_, by rw [sights_fst]; exact hw⟩
  unfold sightsB at hp
  obtain ⟨t, ht, rfl⟩ := List.mem_map.mp hp
  have := hw.inr _ (getD_mem_ (List.mem_range.mp ht))
  exact sg_seen H this.1 this.2 _ _
theorem ixLG {ss : List (Int × List Int)} {t : Nat} (h : t < ss.length) (S : List MO) : ixD S (.lst (ss.map eG)) (.int (t : Int)) = some (eG (ss.getD t (0, []))) := by
  rw [ixs_lst (by simpa using h) S]
  simp [List.getD_eq_getElem?_getD, List.getElem?_map, List.getElem?_eq_getElem h]
theorem p_no_house_n {n : Int} (h2 : 2 ≤ n) (h6 : n ≤ 6) (rest : D) (S : List MO) : g_is_house_value [.tup [.int n, .tup [], rest]] S = .ok (.bl false) S := by
  have i1 : g_has_items [.tup [.int n, .tup [], rest], .int 3, .int 3] S = .ok (.bl true) S := p_has_items _ _ _ _
  have i2 : g_is_within [.int n, .int 2, .int 6] S = .ok (.bl true) S := by rw [p_is_within]; simp [h2, h6]
  have i3 : g_are_doors [.tup [], .int n] S = .ok (.bl false) S := p_are_doors [] n (by simp) S
  have x0 : ixD S (.tup [.int n, .tup [], rest]) (.int 0) = some (.int n) := rfl
  have x1 : ixD S (.tup [.int n, .tup [], rest]) (.int 1) = some (.tup []) := rfl
  simp [g_is_house_value, F_is_house_value, sd0, i1, i2, i3, x0, x1]
theorem no_house_n {n : Int} (h2 : 2 ≤ n) (h6 : n ≤ 6) (rest : D) (S : List MO) : g_need_house [.tup [.int n, .tup [], rest]] S = .exc ⟨0, none⟩ S := by
  rw [p_need_house (p_no_house_n h2 h6 rest S)]; rfl
theorem p_within_non (lo hi : Int) (S : List MO) : g_is_within [.non, .int lo, .int hi] S = .ok (.bl false) S := by
  simp [g_is_within, F_is_within, sd0]
theorem pow_30 : powD (.int 10) (.int 30) = some (.int 1000000000000000000000000000000) := by
  show (if 0 ≤ (30 : Int) ∧ (30 : Int) ≤ 1000000 ∧ (10 : Int).natAbs < 2 ^ 64 then some (D.int (10 ^ (30 : Int).toNat)) else none) = _
  rw [if_pos ⟨by omega, by omega, by omega⟩]
  rfl
theorem lab_no (k : Nat) (hk : k < 15) (S : List MO) : liftR (cmpD .NotEq (.str (labK k)) (.str (labK k))) S = .ok (.bl false) S := by rw [lab_ne k hk]; rfl
/-- the cells of a script -/
theorem cells_of (ns : List Int) (hns : ns.length ≤ 63) (rest : List SV) : (seqI (slE (opE addD (lstE (consA (litE (.int 0)) nilA)) (getb 0)) (partO none) (partO (some (litE (.int 10)))))) (.val (.lst (ns.map .int)) :: rest) [] = .ok (((0 :: ns).take 10).map .int) [] := by
  have one : 1 ≤ sizeLine := by decide
  have ha : addD (.lst [.int 0]) (.lst (ns.map .int)) = some (.lst ((0 :: ns).map .int)) := by
    rw [addD_lst (by simp; exact le_line (by omega))]; rfl
  have hc : slD (.lst ((0 :: ns).map .int)) none (some 10) = some (.lst (((0 :: ns).take 10).map .int)) := by
    show some (D.lst (cutD ((0 :: ns).map .int) none (some 10))) = _
    rw [cut_to, List.map_take]
  simp only [seqI_ap, slE_ap, opE_ap, lstE_ap, consA_ap, litE_ap, nilA_ap, getb_ap, List.getElem?_cons_zero, slotB_val, bnd_ok, List.length_cons, List.length_nil, Nat.zero_add, if_pos one, liftR_some, ha, partO_none, partO_some, asI_int, hc, itemsD_lst]
def K1 : HS := ⟨3, [(0, 1), (1, 2)], [[0, 1, 2, 1]]⟩
def K2 : HS := ⟨3, [(0, 1), (0, 2), (1, 2)], [[0, 1, 2]]⟩
def K3 : HS := ⟨2, [(0, 1)], [[0, 0, 1]]⟩
def K4 : HS := ⟨3, [(0, 1), (0, 2), (1, 2)], [[0, 1, 2], [0, 2, 1]]⟩
theorem houseOk_of {h : HS} (b : (decide (2 ≤ h.n) && decide (h.n ≤ 6) && doorsB h.doors h.n && decide (1 ≤ h.rounds.length) && decide (h.rounds.length ≤ 3) && (h.rounds.all fun r => rowB r h.n h.doors 6) && (h.rounds.all fun r => nearB h.doors (lastI r) (headI r)) && decide (prodB h.rounds 1 ≤ 60)) = true) : HouseOk h := by
  simp only [Bool.and_eq_true, decide_eq_true_eq, List.all_eq_true] at b
  exact ⟨b.1.1.1.1.1.1.1, b.1.1.1.1.1.1.2, b.1.1.1.1.1.2, b.1.1.1.1.2, b.1.1.1.2, b.1.1.2, b.1.2, b.2⟩
theorem K1ok : HouseOk K1 := houseOk_of (by decide +kernel)
theorem K2ok : HouseOk K2 := houseOk_of (by decide +kernel)
theorem K3ok : HouseOk K3 := houseOk_of (by decide +kernel)
theorem K4ok : HouseOk K4 := houseOk_of (by decide +kernel)
theorem p_known (S : List MO) : g__law_known [] S = .ok (.tup [eH K1, eH K2, eH K3, eH K4]) S := by rfl
theorem sightsOk_of {h : HS} {ss : List (Int × List Int)} (b : (decide (1 ≤ ss.length) && ss.all (sgB h) && rowB (ss.map fun p => p.1) h.n h.doors 100) = true) : SightsOk h ss := by
  simp only [Bool.and_eq_true, decide_eq_true_eq, List.all_eq_true] at b
  exact ⟨b.1.1, b.1.2, rowIn b.2⟩
theorem can_by {h : HS} {ss : List (Int × List Int)} {t : Int} {l e : List (List Int)} (h1 : ((leftB h ss).map fun b => roomsAt h b ((ss.length : Int) - 1 + t)) = l) (h2 : rowsOkB l = true) (h3 : ∀ x, x ∈ e ↔ x ∈ l) (h4 : e.Nodup) (h5 : e.Pairwise fun a b => TS.code 64 a ≤ TS.code 64 b) : canB h ss t = e := by
  unfold canB
  rw [h1, ← usort_is h2 h3 h4 h5]
def freeB (h : HS) (r : Int) : List (List Int) := (startsB h).filter fun b => !decide (r ∈ roomsAt h b 0)
def unmetB (h : HS) (w : List Int) : Bool := (freeB h (headI w)).all fun b => (firstMet h b w).isNone
def okStep (h : HS) (some : List (List Int)) (t : Int) (before here : Int) : Bool := !some.any fun b => metB h b t (Option.some before) here
theorem find_none_all {α : Type} (p : α → Bool) : ∀ l : List α, (l.find? p).isNone = l.all fun x => !p x
  | [] => rfl
  | a :: l => by
    rw [List.find?_cons, List.all_cons]
    cases p a
    · simpa using find_none_all p l
    · rfl
theorem getD_app_left {w : List Int} {x : Int} {i : Nat} (h : i < w.length) : (w ++ [x]).getD i 0 = w.getD i 0 := by
  rw [List.getD_eq_getElem?_getD, List.getD_eq_getElem?_getD, List.getElem?_append_left h]
theorem getD_app_last {w : List Int} {x : Int} : (w ++ [x]).getD w.length 0 = x := by
  rw [List.getD_eq_getElem?_getD]
  simp
theorem lastI_getD {w : List Int} (h : w ≠ []) : lastI w = w.getD (w.length - 1) 0 := by
  unfold lastI
  obtain ⟨l, x, rfl⟩ : ∃ l x, w = l ++ [x] := ⟨w.dropLast, w.getLast h, (List.dropLast_concat_getLast h).symm⟩
  have e : (l ++ [x]).length - 1 = l.length := by simp
  rw [e, getD_app_last]
  simp
theorem firstMet_snoc (h : HS) (b w : List Int) (x : Int) (hw : w ≠ []) : (firstMet h b (w ++ [x])).isNone = ((firstMet h b w).isNone && !metB h b (w.length : Int) (some (lastI w)) x) := by
  have hl : 0 < w.length := List.length_pos_iff.mpr hw
  unfold firstMet
  rw [find_none_all, find_none_all]
  have e : (w ++ [x]).length = w.length + 1 := by simp
  rw [e, List.range_succ, List.all_append]
  congr 1
  · rw [Bool.eq_iff_iff, List.all_eq_true, List.all_eq_true]
    have q : ∀ t ∈ List.range w.length, metB h b (t : Int) (prevB (w ++ [x]) t) ((w ++ [x]).getD t 0) = metB h b (t : Int) (prevB w t) (w.getD t 0) := fun t ht => by
      have ht := List.mem_range.mp ht
      rw [getD_app_left ht]
      unfold prevB
      by_cases h0 : 0 < t
      · rw [if_pos h0, if_pos h0, getD_app_left (by omega)]
      · rw [if_neg h0, if_neg h0]
    constructor
    · intro z t ht
      rw [← q t ht]; exact z t ht
    · intro z t ht
      rw [q t ht]; exact z t ht
  · simp only [List.all_cons, List.all_nil, Bool.and_true]
    rw [getD_app_last]
    unfold prevB
    rw [if_pos hl, getD_app_left (by omega), lastI_getD hw]
theorem headI_snoc {w : List Int} {x : Int} (hw : w ≠ []) : headI (w ++ [x]) = headI w := by
  cases w with
  | nil => exact absurd rfl hw
  | cons a l => rfl
theorem lastI_snoc {w : List Int} {x : Int} : lastI (w ++ [x]) = x := by simp [lastI]
theorem unmet_snoc (h : HS) (w : List Int) (x : Int) (hw : w ≠ []) : unmetB h (w ++ [x]) = (unmetB h w && okStep h (freeB h (headI w)) (w.length : Int) (lastI w) x) := by
  unfold unmetB okStep
  rw [headI_snoc hw, Bool.eq_iff_iff]
  simp only [List.all_eq_true, Bool.and_eq_true, Bool.not_eq_true', List.any_eq_false, firstMet_snoc h _ w x hw, Bool.not_eq_true]
  exact ⟨fun z => ⟨fun b hb => (z b hb).1, fun b hb => (z b hb).2⟩, fun z b hb => ⟨z.1 b hb, z.2 b hb⟩⟩
theorem unmet_one (h : HS) (r : Int) : unmetB h [r] = true := by
  unfold unmetB
  rw [List.all_eq_true]
  intro b hb
  have q := (List.mem_filter.mp hb).2
  have e : headI [r] = r := rfl
  rw [e] at q
  simp only [Bool.not_eq_true', decide_eq_false_iff_not] at q
  unfold firstMet
  rw [find_none_all]
  have e2 : List.range [r].length = [0] := rfl
  rw [e2]
  simp [prevB, metB, q]
def candB (h : HS) (some : List (List Int)) (t : Int) (row : List Int) (x : Int) : Bool := nearB h.doors (lastI row) x && okStep h some t (lastI row) x
abbrev KV' := List (Int × List Int)
def stepK (h : HS) (some : List (List Int)) (t : Int) (row : List Int) (kvs : KV') (x : Int) : KV' := if (kvs.find? fun p => decide (p.1 = x)).isNone && candB h some t row x then kvs ++ [(x, row ++ [x])] else kvs
def roomsB (h : HS) : List Int := (List.range h.n.toNat).map fun i : Nat => (i : Int)
def rowK (h : HS) (some : List (List Int)) (t : Int) (kvs : KV') (row : List Int) : KV' := (roomsB h).foldl (stepK h some t row) kvs
def longerB (h : HS) (some : List (List Int)) (rows : List (List Int)) (t : Int) : List (List Int) := ((rows.mergeSort leRB).foldl (rowK h some t) []).map (·.2)
theorem find_none {kvs : KV'} {x : Int} (h : (kvs.find? fun p => decide (p.1 = x)).isNone = true) : ∀ p ∈ kvs, p.1 ≠ x := fun p hp => by
  rw [find_none_all, List.all_eq_true] at h
  simpa using h p hp
section
variable {h : HS} {sm : List (List Int)} {t : Int}
theorem inner_ (row : List Int) : ∀ (xs : List Int) (kvs : KV'),
    (∀ e ∈ kvs, e ∈ xs.foldl (stepK h sm t row) kvs) ∧
    (∀ e ∈ xs.foldl (stepK h sm t row) kvs, e ∈ kvs ∨ (e.1 ∈ xs ∧ candB h sm t row e.1 = true ∧ e.2 = row ++ [e.1])) ∧
    (∀ x ∈ xs, candB h sm t row x = true → ∃ e ∈ xs.foldl (stepK h sm t row) kvs, e.1 = x ∧ (e ∈ kvs ∨ e.2 = row ++ [x]))
  | [], kvs => ⟨fun e he => he, fun e he => .inl he, fun x hx => by cases hx⟩
  | x :: xs, kvs => by
    obtain ⟨i1, i2, i3⟩ := inner_ row xs (stepK h sm t row kvs x)
    rw [List.foldl_cons]
    have sub : ∀ e ∈ kvs, e ∈ stepK h sm t row kvs x := fun e he => by
      unfold stepK
      split
      · exact List.mem_append_left _ he
      · exact he
    have new : ∀ e ∈ stepK h sm t row kvs x, e ∈ kvs ∨ (candB h sm t row x = true ∧ e = (x, row ++ [x])) := fun e he => by
      unfold stepK at he
      split at he
      · rename_i hc
        rw [Bool.and_eq_true] at hc
        rcases List.mem_append.mp he with q | q
        · exact .inl q
        · exact .inr ⟨hc.2, List.mem_singleton.mp q⟩
      · exact .inl he
    refine ⟨fun e he => i1 e (sub e he), fun e he => ?_, fun y hy hc => ?_⟩
    · rcases i2 e he with q | ⟨q1, q2, q3⟩
      · rcases new e q with q | ⟨q1, q2⟩
        · exact .inl q
        · subst q2
          exact .inr ⟨List.mem_cons_self .., q1, rfl⟩
      · exact .inr ⟨List.mem_cons_of_mem _ q1, q2, q3⟩
    · rcases List.mem_cons.mp hy with rfl | hy
      · by_cases hn : (kvs.find? fun p => decide (p.1 = y)).isNone = true
        · have e : stepK h sm t row kvs y = kvs ++ [(y, row ++ [y])] := by
            unfold stepK
            rw [hn, hc]
            rfl
          refine ⟨(y, row ++ [y]), i1 _ (by rw [e]; simp), rfl, .inr rfl⟩
        · cases q : kvs.find? fun p => decide (p.1 = y) with
          | none => rw [q] at hn; exact absurd rfl hn
          | some e =>
            have m := List.mem_of_find?_eq_some q
            have k := List.find?_some q
            exact ⟨e, i1 _ (sub e m), of_decide_eq_true k, .inl m⟩
      · obtain ⟨e, h1, h2, h3⟩ := i3 y hy hc
        refine ⟨e, h1, h2, ?_⟩
        rcases h3 with q | q
        · rcases new e q with q | ⟨q1, q2⟩
          · exact .inl q
          · subst q2
            subst h2
            exact .inr rfl
        · exact .inr q
theorem outer_ : ∀ (rs : List (List Int)) (kvs : KV'), rs.Pairwise (fun a b => a ≤ b) →
    (∀ e ∈ kvs, e ∈ rs.foldl (rowK h sm t) kvs) ∧
    (∀ e ∈ rs.foldl (rowK h sm t) kvs, e ∈ kvs ∨ ∃ row ∈ rs, e.1 ∈ roomsB h ∧ candB h sm t row e.1 = true ∧ e.2 = row ++ [e.1]) ∧
    (∀ row ∈ rs, ∀ x ∈ roomsB h, candB h sm t row x = true → ∃ e ∈ rs.foldl (rowK h sm t) kvs, e.1 = x ∧ (e ∈ kvs ∨ ∃ row' ∈ rs, row' ≤ row ∧ e.2 = row' ++ [x]))
  | [], kvs, _ => ⟨fun e he => he, fun e he => .inl he, fun x hx => by cases hx⟩
  | r :: rs, kvs, hp => by
    obtain ⟨p1, p2⟩ := List.pairwise_cons.mp hp
    obtain ⟨i1, i2, i3⟩ := inner_ (h := h) (sm := sm) (t := t) r (roomsB h) kvs
    obtain ⟨o1, o2, o3⟩ := outer_ rs (rowK h sm t kvs r) p2
    rw [List.foldl_cons]
    refine ⟨fun e he => o1 e (i1 e he), fun e he => ?_, fun row hr x hx hc => ?_⟩
    · rcases o2 e he with q | ⟨row, q1, q2⟩
      · rcases i2 e q with q | q
        · exact .inl q
        · exact .inr ⟨r, List.mem_cons_self .., q⟩
      · exact .inr ⟨row, List.mem_cons_of_mem _ q1, q2⟩
    · rcases List.mem_cons.mp hr with rfl | hr
      · obtain ⟨e, h1, h2, h3⟩ := i3 x hx hc
        refine ⟨e, o1 e h1, h2, ?_⟩
        rcases h3 with q | q
        · exact .inl q
        · exact .inr ⟨row, List.mem_cons_self .., List.le_refl _, q⟩
      · obtain ⟨e, h1, h2, h3⟩ := o3 row hr x hx hc
        refine ⟨e, h1, h2, ?_⟩
        rcases h3 with q | ⟨row', q1, q2, q3⟩
        · rcases i2 e q with q | ⟨_, _, q⟩
          · exact .inl q
          · rw [h2] at q
            exact .inr ⟨r, List.mem_cons_self .., p1 row hr, q⟩
        · exact .inr ⟨row', List.mem_cons_of_mem _ q1, q2, q3⟩
end
/-- all walks a step longer -/
def longB (h : HS) (sm : List (List Int)) (rows : List (List Int)) : List (List Int) := rows.flatMap fun row => (((lastI row :: byB h.doors (lastI row))).filter fun x => okStep h sm (row.length : Int) (lastI row) x).map fun x => row ++ [x]
def shortB (h : HS) (sm : List (List Int)) (g : Int) : Nat → List (List Int) → Option (List Int)
  | 0, _ => none
  | n + 1, rows => match rows.filter fun w => decide (lastI w = g) with
    | [] => shortB h sm g n (longB h sm rows)
    | e :: es => some (minR e es)
/-- some of the rows, the first to each room among them -/
structure Cov (h : HS) (n : Nat) (P L : List (List Int)) : Prop where
  sub : ∀ w ∈ P, w ∈ L
  cov : ∀ w ∈ L, ∃ v ∈ P, lastI v = lastI w ∧ v ≤ w
  len : ∀ w ∈ L, w.length = n + 1 ∧ 0 ≤ lastI w ∧ lastI w < h.n
theorem le_snoc {a b : List Int} {x : Int} (hl : a.length = b.length) (h : a ≤ b) : a ++ [x] ≤ b ++ [x] := by
  induction a generalizing b with
  | nil =>
    cases b with
    | nil => exact List.le_refl _
    | cons _ _ => simp at hl
  | cons y ys ih =>
    cases b with
    | nil => simp at hl
    | cons z zs =>
      simp only [List.cons_append]
      rw [List.cons_le_cons_iff] at h ⊢
      rcases h with h | ⟨h1, h2⟩
      · exact .inl h
      · exact .inr ⟨h1, ih (by simpa using hl) h2⟩
theorem min_cov {h : HS} {n : Nat} {P L : List (List Int)} (c : Cov h n P L) (g : Int) : match (P.filter fun w => decide (lastI w = g)), (L.filter fun w => decide (lastI w = g)) with
    | [], [] => True
    | a :: as, b :: bs => minR a as = minR b bs
    | _, _ => False := by
  cases hp : P.filter fun w => decide (lastI w = g) with
  | nil =>
    cases hl : L.filter fun w => decide (lastI w = g) with
    | nil => trivial
    | cons b bs =>
      have m : b ∈ L.filter fun w => decide (lastI w = g) := by rw [hl]; exact List.mem_cons_self ..
      obtain ⟨m1, m2⟩ := List.mem_filter.mp m
      obtain ⟨v, v1, v2, _⟩ := c.cov b m1
      have : v ∈ P.filter fun w => decide (lastI w = g) := List.mem_filter.mpr ⟨v1, by rw [v2]; exact m2⟩
      rw [hp] at this
      cases this
  | cons a as =>
    have ma : ∀ x, x ∈ a :: as ↔ x ∈ P ∧ lastI x = g := fun x => by rw [← hp, List.mem_filter]; simp
    cases hl : L.filter fun w => decide (lastI w = g) with
    | nil =>
      obtain ⟨m1, m2⟩ := (ma a).mp (List.mem_cons_self ..)
      have : a ∈ L.filter fun w => decide (lastI w = g) := List.mem_filter.mpr ⟨c.sub a m1, by simp [m2]⟩
      rw [hl] at this
      cases this
    | cons b bs =>
      have mb : ∀ x, x ∈ b :: bs ↔ x ∈ L ∧ lastI x = g := fun x => by rw [← hl, List.mem_filter]; simp
      obtain ⟨s1, s2⟩ := minR_spec as a
      obtain ⟨t1, t2⟩ := minR_spec bs b
      obtain ⟨u1, u2⟩ := (ma _).mp s1
      obtain ⟨w1, w2⟩ := (mb _).mp t1
      obtain ⟨v, v1, v2, v3⟩ := c.cov _ w1
      refine List.le_antisymm ?_ (t2 _ ((mb _).mpr ⟨c.sub _ u1, u2⟩))
      exact List.le_trans (s2 v ((ma v).mpr ⟨v1, v2.trans w2⟩)) v3
theorem cov_step {h : HS} (H : HouseOk h) {n : Nat} {P L : List (List Int)} (sm : List (List Int)) (c : Cov h n P L) : Cov h (n + 1) (longerB h sm P ((n : Int) + 1)) (longB h sm L) := by
  obtain ⟨o1, o2, o3⟩ := outer_ (h := h) (sm := sm) (t := (n : Int) + 1) (P.mergeSort leRB) [] (sorted_rows P)
  have dk := doorsOk H.d
  have mem : ∀ r, r ∈ P.mergeSort leRB ↔ r ∈ P := fun r => (List.mergeSort_perm P leRB).mem_iff
  have room : ∀ x, x ∈ roomsB h ↔ 0 ≤ x ∧ x < h.n := fun x => by
    have n2 := H.n2
    unfold roomsB
    simp only [List.mem_map, List.mem_range]
    constructor
    · rintro ⟨i, hi, rfl⟩; omega
    · rintro ⟨h1, h2⟩; exact ⟨x.toNat, by omega, by omega⟩
  have nb : ∀ a x, nearB h.doors a x = true ↔ x ∈ a :: byB h.doors a := fun a x => by
    rw [near_iff dk, List.mem_cons, mem_by]
    constructor
    · rintro (q | q | q)
      · exact .inl q.symm
      · exact .inr (.inr q)
      · exact .inr (.inl q)
    · rintro (q | q | q)
      · exact .inl q.symm
      · exact .inr (.inr q)
      · exact .inr (.inl q)
  have memL : ∀ w, w ∈ longB h sm L ↔ ∃ row ∈ L, ∃ x, candB h sm ((n : Int) + 1) row x = true ∧ w = row ++ [x] := fun w => by
    unfold longB
    simp only [List.mem_flatMap, List.mem_map, List.mem_filter]
    constructor
    · rintro ⟨row, hr, x, ⟨h1, h2⟩, rfl⟩
      refine ⟨row, hr, x, ?_, rfl⟩
      have e : (row.length : Int) = (n : Int) + 1 := by rw [(c.len row hr).1]; rfl
      rw [e] at h2
      unfold candB
      rw [(nb _ _).mpr h1, h2]
      rfl
    · rintro ⟨row, hr, x, hc, rfl⟩
      refine ⟨row, hr, x, ?_, rfl⟩
      have e : (row.length : Int) = (n : Int) + 1 := by rw [(c.len row hr).1]; rfl
      unfold candB at hc
      rw [Bool.and_eq_true] at hc
      rw [e]
      exact ⟨(nb _ _).mp hc.1, hc.2⟩
  have inr : ∀ row ∈ L, ∀ x, candB h sm ((n : Int) + 1) row x = true → 0 ≤ x ∧ x < h.n := fun row hr x hc => by
    unfold candB at hc
    rw [Bool.and_eq_true] at hc
    have q := (nb _ _).mp hc.1
    have := (c.len row hr).2
    rcases List.mem_cons.mp q with q | q
    · rw [q]; exact this
    · exact (by_near dk q).2
  refine ⟨fun w hw => ?_, fun w hw => ?_, fun w hw => ?_⟩
  · unfold longerB at hw
    obtain ⟨e, he, rfl⟩ := List.mem_map.mp hw
    rcases o2 e he with q | ⟨row, q1, q2, q3, q4⟩
    · cases q
    · exact (memL _).mpr ⟨row, c.sub row ((mem row).mp q1), e.1, q3, q4⟩
  · obtain ⟨row, hr, x, hc, rfl⟩ := (memL w).mp hw
    obtain ⟨v, v1, v2, v3⟩ := c.cov row hr
    have hc' : candB h sm ((n : Int) + 1) v x = true := by
      unfold candB at hc ⊢
      rw [v2]; exact hc
    obtain ⟨e, h1, h2, h3⟩ := o3 v ((mem v).mpr v1) x ((room x).mpr (inr row hr x hc)) hc'
    rcases h3 with q | ⟨row', q1, q2, q3⟩
    · cases q
    · refine ⟨e.2, List.mem_map.mpr ⟨e, h1, rfl⟩, ?_, ?_⟩
      · rw [q3, lastI_snoc, lastI_snoc]
      · rw [q3]
        have l1 := (c.len row' (c.sub row' ((mem row').mp q1))).1
        have l2 := (c.len row hr).1
        exact le_snoc (by omega) (List.le_trans q2 v3)
  · obtain ⟨row, hr, x, hc, rfl⟩ := (memL w).mp hw
    refine ⟨by rw [List.length_append, (c.len row hr).1]; rfl, ?_⟩
    rw [lastI_snoc]
    exact inr row hr x hc
theorem notin_eR (l : List Int) (i : Int) : cmpD .NotIn (.int i) (eR l) = some (.bl (!decide (i ∈ l))) := by
  have h1 : ok60 (.int i) = true := ok_int i 60
  have h2 : ok60 (eR l) = true := ok_eR l 59
  have e : cmpD .NotIn (.int i) (eR l) = if ok60 (.int i) && ok60 (eR l) then some (.bl (!((l.map D.int).any fun z => eqD z (.int i)))) else none := rfl
  rw [e, h1, h2, any_int]
  rfl
theorem eq_lst_nil {ds : List D} (h : ok60 (.lst ds) = true) : cmpD .Eq (.lst ds) (.lst []) = some (.bl ds.isEmpty) := by
  have e : cmpD .Eq (.lst ds) (.lst []) = if ok60 (.lst ds) && ok60 (.lst []) then some (.bl (eqD (.lst ds) (.lst []))) else none := rfl
  have h2 : ok60 (.lst []) = true := by simp [okD, okA]
  rw [e, h, h2]
  cases ds with
  | nil => simp [eqD, D.py, pyA, PyData.eqv, PyData.eqvAll]
  | cons a l => simp [eqD, D.py, pyA, PyData.eqv, PyData.eqvAll]
theorem ne_lst_nil {ds : List D} (h : ok60 (.lst ds) = true) : cmpD .NotEq (.lst ds) (.lst []) = some (.bl (!ds.isEmpty)) := by
  have e : cmpD .NotEq (.lst ds) (.lst []) = if ok60 (.lst ds) && ok60 (.lst []) then some (.bl (!eqD (.lst ds) (.lst []))) else none := rfl
  have h2 : ok60 (.lst []) = true := by simp [okD, okA]
  rw [e, h, h2]
  cases ds with
  | nil => simp [eqD, D.py, pyA, PyData.eqv, PyData.eqvAll]
  | cons a l => simp [eqD, D.py, pyA, PyData.eqv, PyData.eqvAll]
theorem okA_rows : ∀ (rs : List (List Int)) (n : Nat), okA (rs.map eR) (n + 1) = true
  | [], n => by simp [okA]
  | r :: rs, n => by simp only [List.map_cons, okA, okA_rows rs n, ok_eR r n, Bool.and_self]
theorem ok_rows (rs : List (List Int)) : ok60 (.lst (rs.map eR)) = true := okA_rows rs 58
theorem free_few {h : HS} (H : HouseOk h) (r : Int) : (freeB h r).length ≤ 60 := Nat.le_trans (List.length_filter_le _ _) (starts_len H)
theorem p_free_ones {h : HS} (H : HouseOk h) (r : Int) (S : List MO) : g_free_ones [eH h, .int r] S = .ok (.lst ((freeB h r).map eR)) S := by
  have n := starts_len H
  have R := H.rowsOk
  simp [g_free_ones, F_free_ones, sd0]
  rw [compF_fil2 (startsB h) eR (fun b => !decide (r ∈ roomsAt h b 0)) id eR (by simp [p_all_beginnings H.rowsOk]) (lt_line (by omega)) (fun b hb => by
    by_cases e : r ∈ roomsAt h b 0 <;> simp [turnM_ap, p_rooms_at R, notin_eR, e])]
  simp [freeB]
theorem p_is_unmet {h : HS} (H : HouseOk h) {w : List Int} (hw : w ≠ []) (hl : w.length < 1000000) (S : List MO) : g_is_unmet [eH h, eR w] S = .ok (.bl (unmetB h w)) S := by
  have n := free_few H (headI w)
  have R := H.rowsOk
  have q1 := compF_map2 (S := S) (it := seqI (callE g_free_ones (consA (getv 0) (consA (ixE (getb 1) (litE (.int 0))) nilA)))) (t := .nm 2) (vs := [2]) (c := yesT) (e := opE (cmpD .Is) (callE g_first_met (consA (getv 0) (consA (getv 2) (consA (getv 1) nilA)))) (litE .non)) (sd := [.val (eH h), .val (eR w), .un])
    (freeB h (headI w)) eR (fun b => (firstMet h b w).isNone) (fun b : Bool => .bl b) (by simp [ixR0 hw, p_free_ones H]) (lt_line (by omega)) (fun b hb => by
      cases e : firstMet h b w <;> simp [turnM_ap, p_first_met R b w hl, cmp_is_oI, e])
  simp [g_is_unmet, F_is_unmet, sd0, q1, allD_map2, unmetB, -List.map_map, -List.all_eq_true]
theorem p_law_free {h : HS} (H : HouseOk h) {w : List Int} (hw : w ≠ []) (hl : w.length < 1000000) (S : List MO) : g__law_free [eH h, eR w] S = .ok (.bl (unmetB h w)) S := by
  have n := starts_len H
  have n2 := free_few H (headI w)
  have R := H.rowsOk
  have q1 := compF_fil2 (S := S) (it := seqI (callE g__law_starts (consA (getv 0) nilA))) (t := .nm 3) (vs := [3]) (c := valT (opE (cmpD .NotIn) (ixE (getb 1) (litE (.int 0))) (callE g__law_there (consA (getv 0) (consA (getv 3) (consA (litE (.int 0)) nilA)))))) (e := getv 3) (sd := [.val (eH h), .val (eR w), .un, .un])
    (startsB h) eR (fun b => !decide (headI w ∈ roomsAt h b 0)) id eR (by simp [p_starts R]) (lt_line (by omega)) (fun b hb => by
      by_cases e : headI w ∈ roomsAt h b 0 <;> simp [turnM_ap, p_there R, notin_lst_ints, ixR0 hw, e])
  have e1 : ((startsB h).filter fun b => !decide (headI w ∈ roomsAt h b 0)).map id = freeB h (headI w) := by simp [freeB]
  rw [e1] at q1
  have q2 := compF_fil2 (S := S) (it := seqI (getv 2)) (t := .nm 3) (vs := [3]) (c := valT (opE (cmpD .IsNot) (callE g__law_caught (consA (getv 0) (consA (getv 3) (consA (getv 1) nilA)))) (litE .non))) (e := litE (.int 1)) (sd := [.val (eH h), .val (eR w), .val (.lst ((freeB h (headI w)).map eR)), .un])
    (freeB h (headI w)) eR (fun b => (firstMet h b w).isSome) (fun _ => (1 : Int)) D.int (by simp) (lt_line (by omega)) (fun b hb => by
      cases e : firstMet h b w <;> simp [turnM_ap, p_caught R b w hl, cmp_isn_oI, e])
  have e2 : List.isEmpty ((((freeB h (headI w)).filter fun b => (firstMet h b w).isSome).map fun _ => (1 : Int)).map D.int) = unmetB h w := by
    rw [List.isEmpty_map, List.isEmpty_map, unmetB]
    rw [Bool.eq_iff_iff, List.isEmpty_iff, List.filter_eq_nil_iff, List.all_eq_true]
    refine forall_congr' fun b => forall_congr' fun _ => ?_
    cases firstMet h b w <;> simp
  have q3 := eq_lst_nil (ds := (((freeB h (headI w)).filter fun b => (firstMet h b w).isSome).map fun _ => (1 : Int)).map D.int) (ok_ints _ 59)
  have q3 : cmpD .Eq (.lst ((((freeB h (headI w)).filter fun b => (firstMet h b w).isSome).map fun _ => (1 : Int)).map D.int)) (.lst []) = some (.bl (unmetB h w)) := by rw [q3, e2]
  have zero : 0 ≤ sizeLine := Nat.zero_le _
  simp [g__law_free, F__law_free, sd0, q1, q2, q3, -List.map_map, -List.map_const']
theorem any_map2 {α : Type} (f : α → Bool) (l : List α) : anyD [D.lst (List.map (fun b => D.bl b) (List.map f l))] = some (.bl (l.any f)) := by
  rw [List.map_map]
  show (bools (l.map fun x => D.bl (f x))).map (fun bs => D.bl (bs.any id)) = _
  rw [bools_map]
  show some (D.bl ((l.map f).any id)) = _
  rw [List.any_map]
  rfl
theorem add_snoc {r : List Int} {x : Int} (hl : r.length < 1000000) : addD (eR r) (.tup [.int x]) = some (eR (r ++ [x])) := by
  have q := addD_tup (x := r.map .int) (y := [.int x]) (by rw [List.length_map]; exact le_line (by simp; omega))
  rw [show eR r = .tup (r.map .int) from rfl, q]
  simp [eR]
theorem sub_len : ∀ {l m : List Int}, l.Nodup → (∀ x ∈ l, x ∈ m) → l.length ≤ m.length
  | [], m, _, _ => Nat.zero_le _
  | a :: l, m, hn, hs => by
    obtain ⟨n1, n2⟩ := List.nodup_cons.mp hn
    have ha := hs a (List.mem_cons_self ..)
    have q := sub_len (l := l) (m := m.erase a) n2 fun x hx => (List.mem_erase_of_ne (fun (e : x = a) => n1 (e ▸ hx))).mpr (hs x (List.mem_cons_of_mem _ hx))
    rw [List.length_erase_of_mem ha] at q
    have := List.length_pos_of_mem ha
    simp only [List.length_cons]
    omega
structure KvOk (h : HS) (kvs : KV') : Prop where
  nd : (kvs.map (·.1)).Nodup
  inr : ∀ e ∈ kvs, e.1 ∈ roomsB h
theorem KvOk.len {h : HS} (H : HouseOk h) {kvs : KV'} (k : KvOk h kvs) : kvs.length ≤ 6 := by
  have q := sub_len k.nd fun x hx => by
    obtain ⟨e, he, rfl⟩ := List.mem_map.mp hx
    exact k.inr e he
  have n2 := H.n2
  have n6 := H.n6
  unfold roomsB at q
  simp only [List.length_map, List.length_range] at q
  omega
theorem KvOk.step {h : HS} {sm : List (List Int)} {t : Int} {row : List Int} {kvs : KV'} (k : KvOk h kvs) {x : Int} (hx : x ∈ roomsB h) : KvOk h (stepK h sm t row kvs x) := by
  unfold stepK
  split
  · rename_i hc
    rw [Bool.and_eq_true] at hc
    have nf := find_none hc.1
    refine ⟨?_, fun e he => ?_⟩
    · rw [List.map_append, List.nodup_append]
      refine ⟨k.nd, by simp, fun a ha b hb => ?_⟩
      obtain ⟨e, he, rfl⟩ := List.mem_map.mp ha
      simp only [List.map_cons, List.map_nil, List.mem_singleton] at hb
      rw [hb]
      exact nf e he
    · rcases List.mem_append.mp he with q | q
      · exact k.inr e q
      · rw [List.mem_singleton.mp q]; exact hx
  · exact k
theorem KvOk.row {h : HS} {sm : List (List Int)} {t : Int} {row : List Int} : ∀ (xs : List Int) {kvs : KV'}, KvOk h kvs → (∀ x ∈ xs, x ∈ roomsB h) → KvOk h (xs.foldl (stepK h sm t row) kvs)
  | [], _, k, _ => k
  | x :: xs, _, k, hx => KvOk.row xs (k.step (hx x (List.mem_cons_self ..))) fun y hy => hx y (List.mem_cons_of_mem _ hy)
theorem KvOk.rows {h : HS} {sm : List (List Int)} {t : Int} : ∀ (rs : List (List Int)) {kvs : KV'}, KvOk h kvs → KvOk h (rs.foldl (rowK h sm t) kvs)
  | [], _, k => k
  | r :: rs, _, k => KvOk.rows rs (k.row (roomsB h) fun _ hx => hx)
theorem kvOk_nil {h : HS} : KvOk h [] := ⟨List.nodup_nil, fun _ z => by cases z⟩
theorem longer_len {h : HS} (H : HouseOk h) (sm P : List (List Int)) (t : Int) : (longerB h sm P t).length ≤ 6 := by
  unfold longerB
  rw [List.length_map]
  exact (KvOk.rows _ kvOk_nil).len H
theorem p_longer {h : HS} (H : HouseOk h) {sm P : List (List Int)} (hs : sm.length ≤ 60) (hl : P.length ≤ 1000) (hP : ∀ w ∈ P, w ≠ [] ∧ w.length < 1000) (t : Int) (S : List MO) : g_longer_rows [eH h, .lst (sm.map eR), .lst (P.map eR), .int t] S = .ok (.lst ((longerB h sm P t).map eR)) S := by
  have R := H.rowsOk
  have n2 := H.n2
  have n6 := H.n6
  have one : 1 ≤ sizeLine := by decide
  have bn := big62_of (i := h.n) (by omega) (by omega)
  have srt := sort_rows (rs := P) (le_line (by omega)) fun r hr => (hP r hr).1
  have ml := longer_len H sm P t
  have mem : ∀ r, r ∈ P.mergeSort leRB ↔ r ∈ P := fun r => (List.mergeSort_perm P leRB).mem_iff
  simp only [g_longer_rows, F_longer_rows, runF_ap, sd0, seqF_ap, dicF_ap, sbnd_nx, ofM_ap, seqI_ap, biE_ap, consA_ap, getb_ap, nilA_ap, bnd_ok, List.length_cons, List.length_nil, List.map_cons, List.map_nil, List.replicate, List.cons_append, List.nil_append, List.set_cons_succ, List.set_cons_zero, List.getElem?_cons_succ, List.getElem?_cons_zero, slotB_val, srt, liftR_some, itemsD_lst, stm_ok]
  refine for_go (P := fun q => (So.bnd q _).out = _) (en := eR) (P.mergeSort leRB) (fun rs sd S' => S' = S ∧ (∀ r ∈ rs, r ∈ P) ∧ ∃ kvs x5 x6 x7, sd = [.val (eH h), .val (.lst (sm.map eR)), .val (.lst (P.map eR)), .val (.int t), .dic false ((kvs : KV').map fun p => D.int p.1) (kvs.map fun p => eR p.2), x5, x6, x7] ∧ KvOk h kvs ∧ rs.foldl (rowK h sm t) kvs = (P.mergeSort leRB).foldl (rowK h sm t) []) ?_ ?_ ?_
  · rintro row rs sd S1 ⟨rfl, hrs, kvs, x5, x6, x7, rfl, kok, hf⟩
    obtain ⟨hne, hrl⟩ := hP row (hrs row (List.mem_cons_self ..))
    refine ⟨_, asgT_nm, ?_⟩
    have rg : ((List.range h.n.toNat).map fun i : Nat => D.int (0 + (i : Int))) = (roomsB h).map D.int := by simp [roomsB]
    simp only [seqF_ap, ofM_ap, rngI_ap, consA_ap, ixE_ap, getb_ap, litE_ap, nilA_ap, bnd_ok, List.set_cons_succ, List.set_cons_zero, List.getElem?_cons_succ, List.getElem?_cons_zero, slotB_val, ixH0_, liftR_some, range_one bn, stm_ok, rg]
    refine for_go (P := fun q => (So.bnd q _).sat _ _) (en := D.int) (roomsB h) (fun xs sd S' => S' = S1 ∧ (∀ x ∈ xs, x ∈ roomsB h) ∧ ∃ kvs1 x6 x7, sd = [.val (eH h), .val (.lst (sm.map eR)), .val (.lst (P.map eR)), .val (.int t), .dic false ((kvs1 : KV').map fun p => D.int p.1) (kvs1.map fun p => eR p.2), .val (eR row), x6, x7] ∧ KvOk h kvs1 ∧ xs.foldl (stepK h sm t row) kvs1 = (roomsB h).foldl (stepK h sm t row) kvs) ?_ ⟨rfl, fun _ z => z, kvs, x6, x7, rfl, kok, rfl⟩ ?_
    · rintro x xs sd S2 ⟨rfl, hxs, kvs1, x6, x7, rfl, kok1, hf1⟩
      have kl := kok1.len H
      have hxr := hxs x (List.mem_cons_self ..)
      have lk := look_int eR x kvs1
      have q1 := compF_map2 (S := S2) (it := seqI (getv 1)) (t := .nm 7) (vs := [7]) (c := yesT) (e := callE g_is_met (consA (getv 0) (consA (getv 7) (consA (getv 3) (consA (ixE (getb 5) (negE (litE (.int 1)))) (consA (getv 6) nilA)))))) (sd := [.val (eH h), .val (.lst (sm.map eR)), .val (.lst (P.map eR)), .val (.int t), .dic false (kvs1.map fun p => D.int p.1) (kvs1.map fun p => eR p.2), .val (eR row), .val (.int x), x7])
        sm eR (fun b => metB h b t (some (lastI row)) x) (fun b : Bool => .bl b) (by simp) (lt_line (by omega)) (fun b hb => by
          have q := p_is_met R b t (some (lastI row)) x S2
          have e : oI (some (lastI row)) = .int (lastI row) := rfl
          rw [e] at q
          simp [turnM_ap, ixRl hne, q])
      have q2 := any_map2 (fun b => metB h b t (some (lastI row)) x) sm
      refine ⟨_, asgT_nm, ?_⟩
      refine sat_of [.val (eH h), .val (.lst (sm.map eR)), .val (.lst (P.map eR)), .val (.int t), .dic false ((stepK h sm t row kvs1 x).map fun p => D.int p.1) ((stepK h sm t row kvs1 x).map fun p => eR p.2), .val (eR row), .val (.int x), x7] S2 ?_ ⟨rfl, fun y hy => hxs y (List.mem_cons_of_mem _ hy), _, _, _, rfl, kok1.step hxr, hf1⟩
      cases c1 : kvs1.find? fun p => decide (p.1 = x) with
      | some e =>
        have st : stepK h sm t row kvs1 x = kvs1 := by unfold stepK; rw [c1]; rfl
        rw [st]
        simp [lk, c1]
      | none =>
        have nf := find_none (kvs := kvs1) (x := x) (by rw [c1]; rfl)
        cases c2 : nearB h.doors (lastI row) x with
        | false =>
          have st : stepK h sm t row kvs1 x = kvs1 := by unfold stepK candB; rw [c1, c2]; rfl
          rw [st]
          simp [lk, c1, ixRl hne, p_is_near, c2]
        | true =>
          cases c3 : sm.any fun b => metB h b t (some (lastI row)) x with
          | true =>
            have st : stepK h sm t row kvs1 x = kvs1 := by unfold stepK candB okStep; rw [c1, c2, c3]; rfl
            rw [st]
            simp [lk, c1, ixRl hne, p_is_near, c2, q1, q2, c3, -List.map_map]
          | false =>
            have st : stepK h sm t row kvs1 x = kvs1 ++ [(x, row ++ [x])] := by unfold stepK candB okStep; rw [c1, c2, c3]; rfl
            have pt := put_int eR (kvs := kvs1) (i := x) (row ++ [x]) nf
            have k6 : kvs1.length < sizeLine := lt_line (by omega)
            rw [st]
            simp [lk, c1, ixRl hne, p_is_near, c2, q1, q2, c3, add_snoc (show row.length < 1000000 by omega), one, pt, k6, -List.map_map]
    · rintro sd' S3 ⟨rfl, _, kvs1, x6, x7, rfl, kok1, hf1⟩
      rw [sbnd_nx, nxF_ap]
      refine .nx ⟨rfl, fun r hr => hrs r (List.mem_cons_of_mem _ hr), kvs1, _, _, _, rfl, kok1, ?_⟩
      rw [List.foldl_cons] at hf
      rw [← hf]
      exact congrArg (fun z => rs.foldl (rowK h sm t) z) hf1
  · exact ⟨rfl, fun r hr => (mem r).mp hr, [], _, _, _, rfl, kvOk_nil, rfl⟩
  · rintro sd' S3 ⟨rfl, _, kvs, x5, x6, x7, rfl, kok, hf⟩
    have hf : kvs = (P.mergeSort leRB).foldl (rowK h sm t) [] := hf
    have kl := kok.len H
    have k6 : kvs.length ≤ sizeLine := le_line (by omega)
    have e : (longerB h sm P t).map eR = kvs.map fun p => eR p.2 := by
      unfold longerB
      rw [← hf, List.map_map]
      rfl
    rw [e]
    simp [k6]
def oR : Option (List Int) → D
  | none => .non
  | some r => eR r
theorem p_need_room {h : HS} {v : D} {b : Bool} {S : List MO} (q : g_is_within [v, .int 0, .int (h.n - 1)] S = .ok (.bl b) S) : g_need_room [eH h, v] S = if b then .ok .non S else .exc ⟨3, none⟩ S := by
  cases b <;> simp [g_need_room, F_need_room, sd0, q, raiF]
theorem room_ok {h : HS} {r : Int} (h0 : 0 ≤ r) (h1 : r < h.n) (S : List MO) : g_need_room [eH h, .int r] S = .ok .non S := by
  rw [p_need_room (b := true) (by rw [p_is_within, decide_eq_true (show (0 : Int) ≤ r from h0), decide_eq_true (show r ≤ h.n - 1 by omega)]; rfl)]; rfl
theorem cov_one {h : HS} {r : Int} (h0 : 0 ≤ r) (h1 : r < h.n) : Cov h 0 [[r]] [[r]] := by
  refine ⟨fun w hw => hw, fun w hw => ⟨w, hw, rfl, List.le_refl _⟩, fun w hw => ?_⟩
  rw [List.mem_singleton.mp hw]
  exact ⟨rfl, h0, h1⟩
theorem ends_rows {h : HS} {n : Nat} {P L : List (List Int)} (c : Cov h n P L) (hn : n < 900) : ∀ w ∈ P, w ≠ [] ∧ w.length < 1000 := fun w hw => by
  have q := (c.len w (c.sub w hw)).1
  exact ⟨fun e => by rw [e] at q; simp at q, by omega⟩
theorem rt_of {r : So} {N : List SV → List MO → Prop} {R : D → List MO → Prop} (d : D) (S : List MO) (h : r = .rt d S) (hR : R d S) : r.sat N R := by rw [h]; exact .rt hR
theorem p_safe_walk {h : HS} (H : HouseOk h) {r g m : Int} (r0 : 0 ≤ r) (r1 : r < h.n) (g0 : 0 ≤ g) (g1 : g < h.n) (m0 : 0 ≤ m) (m1 : m ≤ 12) (S : List MO) : g_safe_walk [eH h, .int r, .int g, .int m] S = .ok (oR (shortB h (freeB h r) g (m + 1).toNat [[r]])) S := by
  have one : 1 ≤ sizeLine := by decide
  have zero : 0 ≤ sizeLine := Nat.zero_le _
  have bm := big62_of (i := m + 1) (by omega) (by omega)
  have fw := free_few H r
  have w1 : g_is_within [.int m, .int 0, .int 12] S = .ok (.bl true) S := by rw [p_is_within, decide_eq_true (show (0 : Int) ≤ m from m0), decide_eq_true m1]; rfl
  generalize ht : shortB h (freeB h r) g (m + 1).toNat [[r]] = tgt
  have rg : ((List.range (m + 1).toNat).map fun i : Nat => D.int (0 + (i : Int))) = (List.range' 0 (m + 1).toNat).map fun i : Nat => D.int (i : Int) := by rw [List.range_eq_range']; simp
  simp only [g_safe_walk, F_safe_walk, runF_ap, sd0, seqF_ap, ofM_ap, callE_ap, consA_ap, getv_ap, litE_ap, nilA_ap, bnd_ok, List.length_cons, List.length_nil, List.map_cons, List.map_nil, List.replicate, List.cons_append, List.nil_append, List.getElem?_cons_succ, List.getElem?_cons_zero, slotR_val, need_ok H, stm_ok, nxF_ap, sbnd_nx, room_ok r0 r1, room_ok g0 g1, notT_ap, valT_ap, w1, asB_bl, Bool.not_true, ifF_ap, Bool.false_eq_true, if_false, p_free_ones H, setF_ap, List.set_cons_succ, List.set_cons_zero, lstE_ap, tupE_ap, Nat.zero_add, if_pos one, liftR_some, rngI_ap, opE_ap, getb_ap, slotB_val, addD_int, range_one bm, rg]
  refine for_el (P := fun q => (So.bnd q _).out = _) (en := fun i : Nat => D.int (i : Int)) (List.range' 0 (m + 1).toNat) (fun xs sd S' => S' = S ∧ ∃ k t P L x6 x7 x8, xs = List.range' t k ∧ t + k ≤ 13 ∧ sd = [.val (eH h), .val (.int r), .val (.int g), .val (.int m), .val (.lst ((freeB h r).map eR)), .val (.lst ((P : List (List Int)).map eR)), x6, x7, x8] ∧ Cov h t P L ∧ P.length ≤ 1000 ∧ shortB h (freeB h r) g k L = tgt) (fun d S' => S' = S ∧ d = oR tgt) ?_ ?_ ?_ ?_
  · rintro x xs sd S1 ⟨rfl, k, t, P, L, x6, x7, x8, hx, hk, rfl, c, pl, hs⟩
    cases k with
    | zero => simp at hx
    | succ k =>
      rw [List.range'_succ] at hx
      obtain ⟨rfl, rfl⟩ := List.cons.inj hx
      refine ⟨_, asgT_nm, ?_⟩
      have er := ends_rows c (by omega)
      have q1 := compF_fil2 (S := S1) (it := seqI (getv 5)) (t := .nm 8) (vs := [8]) (c := valT (opE (cmpD .Eq) (ixE (getb 8) (negE (litE (.int 1)))) (getb 2))) (e := getv 8) (sd := [.val (eH h), .val (.int r), .val (.int g), .val (.int m), .val (.lst ((freeB h r).map eR)), .val (.lst (P.map eR)), .val (.int (x : Int)), x7, x8])
        P eR (fun w => decide (lastI w = g)) id eR (by simp) (lt_line (by omega)) (fun w hw => by
          by_cases e : lastI w = g <;> simp [turnM_ap, ixRl (er w hw).1, cmp_eq_int, e])
      have mc := min_cov c g
      rw [List.map_id] at q1
      unfold shortB at hs
      cases hp : P.filter fun w => decide (lastI w = g) with
      | nil =>
        cases hl : L.filter fun w => decide (lastI w = g) with
        | cons b bs => rw [hp, hl] at mc; exact mc.elim
        | nil =>
          rw [hp] at q1
          rw [hl] at hs
          have ne : cmpD .NotEq (.lst []) (.lst []) = some (.bl false) := ne_lst_nil (ok_rows [])
          have lg := p_longer H (sm := freeB h r) fw pl er ((x : Int) + 1) S1
          have ll := longer_len H (freeB h r) P ((x : Int) + 1)
          have c2 := cov_step H (freeB h r) c
          refine sat_of _ S1 (by simp [q1, ne, lg]; exact ⟨rfl, rfl, rfl⟩) ⟨rfl, k, x + 1, longerB h (freeB h r) P ((x : Int) + 1), longB h (freeB h r) L, _, _, _, rfl, by omega, rfl, c2, by omega, hs⟩
      | cons a as =>
        cases hl : L.filter fun w => decide (lastI w = g) with
        | nil => rw [hp, hl] at mc; exact mc.elim
        | cons b bs =>
          rw [hp, hl] at mc
          rw [hp] at q1
          rw [hl] at hs
          have mc : minR a as = minR b bs := mc
          have ne := ne_lst_nil (ok_rows (a :: as))
          have mn := min_rows a as
          rw [List.map_cons] at mn ne
          have hs : some (minR b bs) = tgt := hs
          refine rt_of (eR (minR a as)) S1 (?_ : (seqF (ofM (frsE (compF (seqI (getv 5)) (.nm 8) [8] (valT (opE (cmpD .Eq) (ixE (getb 8) (negE (litE (.int 1)))) (getb 2))) (getv 8))) (setF 7)) (seqF (ofM (valT (opE (cmpD .NotEq) (getb 7) (lstE nilA))) (ifF (seqF (ofM (biE min1D (consA (getb 7) nilA)) retF) nxF) nxF)) (seqF (ofM (callE g_longer_rows (consA (getv 0) (consA (getv 4) (consA (getv 5) (consA (opE addD (getb 6) (litE (.int 1))) nilA))))) (setF 5)) nxF))) [.val (eH h), .val (.int r), .val (.int g), .val (.int m), .val (.lst ((freeB h r).map eR)), .val (.lst (P.map eR)), .val (.int (x : Int)), x7, x8] S1 = _) ⟨rfl, by rw [← hs, mc]; rfl⟩
          simp [q1, ne, mn]
  · exact ⟨rfl, (m + 1).toNat, 0, [[r]], [[r]], _, _, _, rfl, by omega, rfl, cov_one r0 r1, by simp, ht⟩
  · rintro sd' S1 ⟨rfl, k, t, P, L, x6, x7, x8, hx, hk, rfl, c, pl, hs⟩
    have k0 : k = 0 := by
      have := congrArg List.length hx
      simpa using this.symm
    subst k0
    have hs : none = tgt := hs
    rw [← hs]
    simp [oR]
  · rintro d S1 ⟨rfl, rfl⟩
    simp
structure LOk (h : HS) (r : Int) (t : Nat) (L : List (List Int)) : Prop where
  len : L.length ≤ 6 ^ t
  row : ∀ w ∈ L, w.length = t + 1 ∧ headI w = r ∧ unmetB h w = true ∧ 0 ≤ lastI w ∧ lastI w < h.n
theorem LOk.ne {h : HS} {r : Int} {t : Nat} {L : List (List Int)} (k : LOk h r t L) {w : List Int} (hw : w ∈ L) : w ≠ [] := fun e => by
  have q := (k.row w hw).1
  rw [e] at q
  simp at q
theorem by_five {h : HS} (H : HouseOk h) {a : Int} (h0 : 0 ≤ a) (h1 : a < h.n) : (byB h.doors a).length ≤ 5 := by
  have q := nextDoor_five H h0 h1
  rw [nextDoor_by (doorsOk H.d)] at q
  exact q
def nextRows (h : HS) (sm : List (List Int)) (row : List Int) : List (List Int) := ((lastI row :: byB h.doors (lastI row)).filter fun x => okStep h sm (row.length : Int) (lastI row) x).map fun x => row ++ [x]
theorem next_len {h : HS} (H : HouseOk h) (sm : List (List Int)) {row : List Int} (h0 : 0 ≤ lastI row) (h1 : lastI row < h.n) : (nextRows h sm row).length ≤ 6 := by
  have q := by_five H h0 h1
  unfold nextRows
  rw [List.length_map]
  exact Nat.le_trans (List.length_filter_le _ _) (by simp; omega)
theorem flat_len {h : HS} (H : HouseOk h) (sm : List (List Int)) : ∀ {L : List (List Int)}, (∀ w ∈ L, 0 ≤ lastI w ∧ lastI w < h.n) → (L.flatMap (nextRows h sm)).length ≤ 6 * L.length
  | [], _ => by simp
  | w :: L, hw => by
    have q := flat_len H sm (L := L) fun x hx => hw x (List.mem_cons_of_mem _ hx)
    obtain ⟨a, b⟩ := hw w (List.mem_cons_self ..)
    have q2 := next_len H sm a b
    rw [List.flatMap_cons, List.length_append, List.length_cons]
    omega
theorem LOk.step {h : HS} (H : HouseOk h) {r : Int} {t : Nat} {L : List (List Int)} (k : LOk h r t L) : LOk h r (t + 1) (longB h (freeB h r) L) := by
  refine ⟨?_, fun w hw => ?_⟩
  · have q := flat_len H (freeB h r) (L := L) fun w hw => (k.row w hw).2.2.2
    have e : longB h (freeB h r) L = L.flatMap (nextRows h (freeB h r)) := rfl
    rw [e]
    have := k.len
    rw [Nat.pow_succ]
    omega
  · unfold longB at hw
    simp only [List.mem_flatMap, List.mem_map, List.mem_filter] at hw
    obtain ⟨row, hr, x, ⟨h1, h2⟩, rfl⟩ := hw
    obtain ⟨k1, k2, k3, k4⟩ := k.row row hr
    have ne := k.ne hr
    refine ⟨by simp [k1], by rw [headI_snoc ne, k2], ?_, ?_⟩
    · rw [unmet_snoc h row x ne, k3, k2, h2]; rfl
    · rw [lastI_snoc]
      rcases List.mem_cons.mp h1 with q | q
      · rw [q]; exact k4
      · exact (by_near (doorsOk H.d) q).2
theorem cut_400 (ds : List D) (h : ds.length ≤ 400) : cutD ds none (some 400) = ds := by
  rw [cut_nat ds (by omega)]
  exact List.take_of_length_le (by omega)
theorem p_shortest {h : HS} (H : HouseOk h) {r g m : Int} (r0 : 0 ≤ r) (r1 : r < h.n) (m0 : 0 ≤ m) (m1 : m ≤ 3) (S : List MO) : g__law_shortest [eH h, .int r, .int g, .int m] S = .ok (oR (shortB h (freeB h r) g (m + 1).toNat [[r]])) S := by
  have one : 1 ≤ sizeLine := by decide
  have zero : 0 ≤ sizeLine := Nat.zero_le _
  have bm := big62_of (i := m + 1) (by omega) (by omega)
  have dk := doorsOk H.d
  have hby := fun r S => p_by (hd := eH h) (doors := h.doors) (fun S => rfl) (by have := dk.few; omega) r S
  generalize ht : shortB h (freeB h r) g (m + 1).toNat [[r]] = tgt
  have rg : ((List.range (m + 1).toNat).map fun i : Nat => D.int (0 + (i : Int))) = (List.range' 0 (m + 1).toNat).map fun i : Nat => D.int (i : Int) := by rw [List.range_eq_range']; simp
  simp only [g__law_shortest, F__law_shortest, runF_ap, sd0, seqF_ap, ofM_ap, consA_ap, getv_ap, litE_ap, nilA_ap, bnd_ok, List.length_cons, List.length_nil, List.map_cons, List.map_nil, List.replicate, List.cons_append, List.nil_append, List.getElem?_cons_succ, List.getElem?_cons_zero, slotR_val, stm_ok, nxF_ap, sbnd_nx, setF_ap, List.set_cons_succ, List.set_cons_zero, lstE_ap, tupE_ap, Nat.zero_add, if_pos one, liftR_some, rngI_ap, opE_ap, getb_ap, slotB_val, addD_int, range_one bm, rg]
  refine for_el (P := fun q => (So.bnd q _).out = _) (en := fun i : Nat => D.int (i : Int)) (List.range' 0 (m + 1).toNat) (fun xs sd S' => S' = S ∧ ∃ k t L x5 x6 x7 x8 x9, xs = List.range' t k ∧ t + k ≤ 4 ∧ sd = [.val (eH h), .val (.int r), .val (.int g), .val (.int m), .val (.lst ((L : List (List Int)).map eR)), x5, x6, x7, x8, x9] ∧ (k = 0 ∨ LOk h r t L) ∧ shortB h (freeB h r) g k L = tgt) (fun d S' => S' = S ∧ d = oR tgt) ?_ ?_ ?_ ?_
  · rintro x xs sd S1 ⟨rfl, k, t, L, x5, x6, x7, x8, x9, hx, hk, rfl, c, hs⟩
    cases k with
    | zero => simp at hx
    | succ k =>
      rw [List.range'_succ] at hx
      obtain ⟨rfl, rfl⟩ := List.cons.inj hx
      have cL : LOk h r x L := by
        rcases c with c | c
        · cases c
        · exact c
      clear c
      have l216 : L.length ≤ 216 := Nat.le_trans cL.len (by
        have : 6 ^ x ≤ 6 ^ 3 := Nat.pow_le_pow_right (by omega) (by omega)
        omega)
      refine ⟨_, asgT_nm, ?_⟩
      have q1 := compF_fil2 (S := S1) (it := seqI (getv 4)) (t := .nm 8) (vs := [8]) (c := valT (opE (cmpD .Eq) (ixE (getb 8) (negE (litE (.int 1)))) (getb 2))) (e := getv 8) (sd := [.val (eH h), .val (.int r), .val (.int g), .val (.int m), .val (.lst (L.map eR)), .val (.int (x : Int)), x6, x7, x8, x9])
        L eR (fun w => decide (lastI w = g)) id eR (by simp) (lt_line (by omega)) (fun w hw => by
          by_cases e : lastI w = g <;> simp [turnM_ap, ixRl (cL.ne hw), cmp_eq_int, e])
      rw [List.map_id] at q1
      unfold shortB at hs
      cases hl : L.filter fun w => decide (lastI w = g) with
      | cons b bs =>
        rw [hl] at q1 hs
        have ne := ne_lst_nil (ok_rows (b :: bs))
        have mn := min_rows b bs
        rw [List.map_cons] at mn ne
        have hs : some (minR b bs) = tgt := hs
        refine rt_of (eR (minR b bs)) S1 ?_ ⟨rfl, by rw [← hs]; rfl⟩
        simp [q1, ne, mn]
      | nil =>
        rw [hl] at q1 hs
        have hs : shortB h (freeB h r) g k (longB h (freeB h r) L) = tgt := hs
        have ne : cmpD .NotEq (.lst []) (.lst []) = some (.bl false) := ne_lst_nil (ok_rows [])
        simp only [seqF_ap, ofM_ap, frsE_ap, List.set_cons_succ, List.set_cons_zero, q1, List.map_nil, bnd_ok, stm_ok, setF_ap, sbnd_nx, valT_ap, opE_ap, getb_ap, List.getElem?_cons_succ, List.getElem?_cons_zero, slotB_val, lstE_ap, nilA_ap, List.length_nil, if_pos zero, liftR_some, ne, asB_bl, ifF_ap, Bool.false_eq_true, if_false, nxF_ap, flsF_ap, ownF_ap, seqI_ap, getv_ap, slotR_val, itemsD_lst]
        have e : longB h (freeB h r) L = L.flatMap (nextRows h (freeB h r)) := rfl
        refine for_go (P := fun q => (So.bnd q _).sat _ _) (en := eR) L (fun ws sd S' => S' = S1 ∧ (∀ w ∈ ws, w ∈ L) ∧ ∃ acc x8 x9, sd = [.val (eH h), .val (.int r), .val (.int g), .val (.int m), .val (.lst (L.map eR)), .val (.int (x : Int)), .val (.lst []), .own ((acc : List (List Int)).map eR), x8, x9] ∧ acc ++ ws.flatMap (nextRows h (freeB h r)) = longB h (freeB h r) L ∧ acc.length + 6 * ws.length ≤ 1296) ?_ ⟨rfl, fun _ z => z, [], _, _, rfl, rfl, by simp; omega⟩ ?_
        · rintro w ws sd S2 ⟨rfl, hws, acc, x8, x9, rfl, ha, hl2⟩
          have hw := hws w (List.mem_cons_self ..)
          obtain ⟨k1, k2, k3, k4, k5⟩ := cL.row w hw
          have wne := cL.ne hw
          have b5 := by_five H k4 k5
          have add : addD (.lst [.int (lastI w)]) (.lst ((byB h.doors (lastI w)).map .int)) = some (.lst ((lastI w :: byB h.doors (lastI w)).map .int)) := by
            rw [addD_lst (by simp; exact le_line (by omega))]; rfl
          refine ⟨_, asgT_nm, ?_⟩
          simp only [List.length_cons] at hl2
          rw [List.flatMap_cons] at ha
          simp only [List.set_cons_succ, List.set_cons_zero, seqF_ap, ofM_ap, seqI_ap, opE_ap, lstE_ap, consA_ap, ixE_ap, getb_ap, List.getElem?_cons_succ, List.getElem?_cons_zero, slotB_val, negE_ap, litE_ap, bnd_ok, negM_int, ixRl wne, liftR_some, nilA_ap, List.length_cons, List.length_nil, Nat.zero_add, if_pos one, callE_ap, getv_ap, slotR_val, hby, add, itemsD_lst, stm_ok]
          refine for_go (P := fun q => (So.bnd q _).sat _ _) (en := D.int) (lastI w :: byB h.doors (lastI w)) (fun ys sd S' => S' = S2 ∧ ∃ acc1 x9, sd = [.val (eH h), .val (.int r), .val (.int g), .val (.int m), .val (.lst (L.map eR)), .val (.int (x : Int)), .val (.lst []), .own ((acc1 : List (List Int)).map eR), .val (eR w), x9] ∧ acc1 ++ ((ys.filter fun y => okStep h (freeB h r) (w.length : Int) (lastI w) y).map fun y => w ++ [y]) = acc ++ nextRows h (freeB h r) w ∧ acc1.length + ys.length ≤ acc.length + 6) ?_ ⟨rfl, acc, _, rfl, rfl, by simp; omega⟩ ?_
          · rintro y ys sd S3 ⟨rfl, acc1, x9, rfl, ha1, hl3⟩
            simp only [List.length_cons] at hl3
            have fr := p_law_free H (w := w ++ [y]) (by simp) (by simp; omega) S3
            have um := unmet_snoc h w y wne
            rw [k3, k2, Bool.true_and] at um
            rw [um] at fr
            have sn := add_snoc (r := w) (x := y) (by omega)
            have al : acc1.length < sizeLine := lt_line (by omega)
            refine ⟨_, asgT_nm, ?_⟩
            cases ok : okStep h (freeB h r) (w.length : Int) (lastI w) y with
            | false =>
              rw [ok] at fr
              refine sat_of [.val (eH h), .val (.int r), .val (.int g), .val (.int m), .val (.lst (L.map eR)), .val (.int (x : Int)), .val (.lst []), .own (acc1.map eR), .val (eR w), .val (.int y)] S3 (by simp [sn, fr, one]) ⟨rfl, acc1, _, rfl, ?_, by omega⟩
              rw [List.filter_cons_of_neg (by rw [ok]; exact Bool.false_ne_true)] at ha1
              exact ha1
            | true =>
              rw [ok] at fr
              refine sat_of [.val (eH h), .val (.int r), .val (.int g), .val (.int m), .val (.lst (L.map eR)), .val (.int (x : Int)), .val (.lst []), .own ((acc1 ++ [w ++ [y]]).map eR), .val (eR w), .val (.int y)] S3 (by simp [sn, fr, one, al]) ⟨rfl, acc1 ++ [w ++ [y]], _, rfl, ?_, by simp; omega⟩
              rw [List.filter_cons_of_pos ok, List.map_cons] at ha1
              rw [List.append_assoc]
              exact ha1
          · rintro sd' S3 ⟨rfl, acc1, x9, rfl, ha1, hl3⟩
            rw [List.filter_nil, List.map_nil, List.append_nil] at ha1
            rw [sbnd_nx, nxF_ap]
            refine .nx ⟨rfl, fun z hz => hws z (List.mem_cons_of_mem _ hz), acc1, _, _, rfl, ?_, ?_⟩
            · rw [ha1, List.append_assoc]; exact ha
            · simp only [List.length_nil] at hl3; omega
        · rintro sd' S2 ⟨rfl, _, acc, x8, x9, rfl, ha, _⟩
          rw [List.flatMap_nil, List.append_nil] at ha
          rw [sbnd_nx]
          cases k with
          | zero =>
            have sl : slD (.lst (acc.map eR)) none (some 400) = some (.lst ((acc.take 400).map eR)) := by
              show some (D.lst (cutD (acc.map eR) none (some 400))) = _
              rw [cut_nat _ (by omega), List.map_take]
              rfl
            refine sat_of _ S2 (by simp [sl]; exact ⟨rfl, rfl, rfl, rfl, rfl⟩) ⟨rfl, 0, x + 1, acc.take 400, _, _, _, _, _, rfl, by omega, rfl, .inl rfl, ?_⟩
            rw [← hs]
            rfl
          | succ k =>
            have c2 := cL.step H
            rw [← ha] at c2
            have l400 : acc.length ≤ 400 := Nat.le_trans c2.len (by
              have : 6 ^ (x + 1) ≤ 6 ^ 3 := Nat.pow_le_pow_right (by omega) (by omega)
              omega)
            have sl : slD (.lst (acc.map eR)) none (some 400) = some (.lst (acc.map eR)) := by
              show some (D.lst (cutD (acc.map eR) none (some 400))) = _
              rw [cut_400 _ (by rw [List.length_map]; exact l400)]
            refine sat_of _ S2 (by simp [sl]; exact ⟨rfl, rfl, rfl, rfl, rfl⟩) ⟨rfl, k + 1, x + 1, acc, _, _, _, _, _, rfl, by omega, rfl, .inr c2, ?_⟩
            rw [ha]
            exact hs
  · refine ⟨rfl, (m + 1).toNat, 0, [[r]], _, _, _, _, _, rfl, by omega, rfl, .inr ⟨by simp, fun w hw => ?_⟩, ht⟩
    rw [List.mem_singleton.mp hw]
    exact ⟨rfl, rfl, unmet_one h r, r0, r1⟩
  · rintro sd' S1 ⟨rfl, k, t, L, x5, x6, x7, x8, x9, hx, hk, rfl, c, hs⟩
    have k0 : k = 0 := by
      have := congrArg List.length hx
      simpa using this.symm
    subst k0
    have hs : none = tgt := hs
    rw [← hs]
    simp [oR]
  · rintro d S1 ⟨rfl, rfl⟩
    simp
def NoRoom (h : HS) (d : D) : Prop := ∀ S, g_need_room [eH h, d] S = .exc ⟨3, none⟩ S
theorem noRoom_of {h : HS} {d : D} (hb : ∀ S, g_is_within [d, .int 0, .int (h.n - 1)] S = .ok (.bl false) S) : NoRoom h d := fun S => by rw [p_need_room (hb S)]; rfl
theorem noRoom_non {h : HS} : NoRoom h .non := noRoom_of fun S => p_within_non _ _ S
theorem noRoom_bl {h : HS} (b : Bool) : NoRoom h (.bl b) := noRoom_of fun S => p_within_bl b _ _ S
theorem p_within_str (x : Str) (lo hi : Int) (S : List MO) : g_is_within [.str x, .int lo, .int hi] S = .ok (.bl false) S := by
  simp [g_is_within, F_is_within, sd0]
theorem noRoom_str {h : HS} (x : Str) : NoRoom h (.str x) := noRoom_of fun S => p_within_str x _ _ S
theorem noRoom_int {h : HS} {i : Int} (hi : i < 0 ∨ h.n ≤ i) : NoRoom h (.int i) := noRoom_of fun S => by
  rw [p_is_within]
  rcases hi with q | q
  · rw [decide_eq_false (show ¬ (0 : Int) ≤ i by omega)]; rfl
  · rw [decide_eq_false (show ¬ i ≤ h.n - 1 by omega), Bool.and_false]
theorem p_surely {h : HS} (H : HouseOk h) {w : List Int} (hr : RowIn h.n h.doors w) (hw : w.length ≤ 100) (S : List MO) : g_surely_unmet [eH h, eR w] S = .ok (.bl (unmetB h w)) S := by
  simp [g_surely_unmet, F_surely_unmet, sd0, need_ok H, walk_ok hr hw, p_is_unmet H hr.ne (show w.length < 1000000 by omega)]
theorem exc_surely_house {a b : D} {S : List MO} {x : Ex} (h : g_need_house [a] S = .exc x S) : g_surely_unmet [a, b] S = .exc x S := by simp [g_surely_unmet, F_surely_unmet, sd0, h]
theorem exc_surely_walk {a b : D} {S : List MO} {x : Ex} (h : g_need_house [a] S = .ok .non S) (h' : g_need_walk [a, b] S = .exc x S) : g_surely_unmet [a, b] S = .exc x S := by simp [g_surely_unmet, F_surely_unmet, sd0, h, h']
theorem exc_safe_house {a b c d : D} {S : List MO} {x : Ex} (h : g_need_house [a] S = .exc x S) : g_safe_walk [a, b, c, d] S = .exc x S := by simp [g_safe_walk, F_safe_walk, sd0, h]
theorem exc_safe_room {a b c d : D} {S : List MO} {x : Ex} (h : g_need_house [a] S = .ok .non S) (h' : g_need_room [a, b] S = .exc x S) : g_safe_walk [a, b, c, d] S = .exc x S := by simp [g_safe_walk, F_safe_walk, sd0, h, h']
theorem exc_safe_goal {a b c d : D} {S : List MO} {x : Ex} (h : g_need_house [a] S = .ok .non S) (h' : g_need_room [a, b] S = .ok .non S) (h2 : g_need_room [a, c] S = .exc x S) : g_safe_walk [a, b, c, d] S = .exc x S := by simp [g_safe_walk, F_safe_walk, sd0, h, h', h2]
theorem exc_safe_most {a b c d : D} {S : List MO} (h : g_need_house [a] S = .ok .non S) (h' : g_need_room [a, b] S = .ok .non S) (h2 : g_need_room [a, c] S = .ok .non S) (h3 : g_is_within [d, .int 0, .int 12] S = .ok (.bl false) S) : g_safe_walk [a, b, c, d] S = .exc ⟨9, none⟩ S := by simp [g_safe_walk, F_safe_walk, sd0, h, h', h2, h3, raiF]
theorem noWalk_nil {h : HS} : NoWalk h (.tup []) := noWalk_of fun S => row_not (by rw [p_has_items]; rfl)
def K5 : HS := ⟨4, [(0, 1), (0, 2), (1, 3), (2, 3)], [[0]]⟩
def K6 : HS := ⟨4, [(0, 1), (0, 2), (1, 3), (2, 3)], [[3]]⟩
def K7 : HS := ⟨5, [(0, 1), (0, 2), (1, 3), (2, 3), (3, 4)], [[4]]⟩
theorem K5ok : HouseOk K5 := houseOk_of (by decide +kernel)
theorem K6ok : HouseOk K6 := houseOk_of (by decide +kernel)
theorem K7ok : HouseOk K7 := houseOk_of (by decide +kernel)
theorem rowIn_of {h : HS} {w : List Int} (b : rowB w h.n h.doors 100 = true) : RowIn h.n h.doors w := rowIn b
theorem ne_eR (a b : List Int) : cmpD .NotEq (eR a) (eR b) = some (.bl (!decide (a = b))) := by
  have e : cmpD .NotEq (eR a) (eR b) = if ok60 (eR a) && ok60 (eR b) then some (.bl (!eqD (eR a) (eR b))) else none := rfl
  rw [e, show ok60 (eR a) = true from ok_eR a 59, show ok60 (eR b) = true from ok_eR b 59, eq_eR]
  rfl
theorem eq_eR' (a b : List Int) : cmpD .Eq (eR a) (eR b) = some (.bl (decide (a = b))) := by
  have e : cmpD .Eq (eR a) (eR b) = if ok60 (eR a) && ok60 (eR b) then some (.bl (eqD (eR a) (eR b))) else none := rfl
  rw [e, show ok60 (eR a) = true from ok_eR a 59, show ok60 (eR b) = true from ok_eR b 59, eq_eR]
  rfl
def longN (h : HS) (sm : List (List Int)) (rows : List (List Int)) : List (List Int) := rows.flatMap fun row => (((lastI row :: nextDoor h (lastI row))).filter fun x => okStep h sm (row.length : Int) (lastI row) x).map fun x => row ++ [x]
def shortN (h : HS) (sm : List (List Int)) (g : Int) : Nat → List (List Int) → Option (List Int)
  | 0, _ => none
  | n + 1, rows => match rows.filter fun w => decide (lastI w = g) with
    | [] => shortN h sm g n (longN h sm rows)
    | e :: es => some (minR e es)
theorem short_eq {h : HS} (H : HouseOk h) (sm : List (List Int)) (g : Int) : ∀ (n : Nat) (L : List (List Int)), shortB h sm g n L = shortN h sm g n L
  | 0, _ => rfl
  | n + 1, L => by
    have e : longB h sm L = longN h sm L := by
      unfold longB longN
      simp only [nextDoor_by (doorsOk H.d)]
    unfold shortB shortN
    rw [e, short_eq H sm g n]
theorem safe_by {h : HS} (H : HouseOk h) {r g m : Int} {o : Option (List Int)} (b : (decide (0 ≤ r) && decide (r < h.n) && decide (0 ≤ g) && decide (g < h.n) && decide (0 ≤ m) && decide (m ≤ 12)) = true) (e : shortN h (freeB h r) g (m + 1).toNat [[r]] = o) (S : List MO) : g_safe_walk [eH h, .int r, .int g, .int m] S = .ok (oR o) S := by
  simp only [Bool.and_eq_true, decide_eq_true_eq] at b
  rw [p_safe_walk H b.1.1.1.1.1 b.1.1.1.1.2 b.1.1.1.2 b.1.1.2 b.1.2 b.2, short_eq H, e]
theorem surely_by {h : HS} (H : HouseOk h) {w : List Int} {b : Bool} (hr : rowB w h.n h.doors 100 = true) (e : unmetB h w = b) (S : List MO) : g_surely_unmet [eH h, eR w] S = .ok (.bl b) S := by
  have l := row_len hr
  rw [p_surely H (rowIn_of hr) (by omega), e]
end Q
set_option Elab.async false
set_option linter.all false
set_option maxRecDepth 100000
set_option maxHeartbeats 4000000
namespace Q
open PySem PySem.Spec PyProof.Rows
theorem written (S : List MO) : g__law_written [] S = .ok (.bl true) S := by
  have one : 1 ≤ sizeLine := by decide
  have two : 2 ≤ sizeLine := by decide
  have three : 3 ≤ sizeLine := by decide
  have four : 4 ≤ sizeLine := by decide
  have five : 5 ≤ sizeLine := by decide
  have u1 := surely_by K1ok (w := [2]) (b := true) (by decide +kernel) (by decide +kernel) S
  have u2 := surely_by K1ok (w := [2, 2]) (b := false) (by decide +kernel) (by decide +kernel) S
  have u3 := surely_by K2ok (w := [0, 1, 2, 0, 1]) (b := true) (by decide +kernel) (by decide +kernel) S
  have s1 := safe_by K2ok (r := 0) (g := 1) (m := 12) (o := some [0, 1]) (by decide +kernel) (by decide +kernel) S
  have s2 := safe_by K2ok (r := 0) (g := 2) (m := 12) (o := some [0, 1, 2]) (by decide +kernel) (by decide +kernel) S
  have s3 := safe_by K2ok (r := 0) (g := 2) (m := 1) (o := none) (by decide +kernel) (by decide +kernel) S
  have s4 := safe_by K1ok (r := 0) (g := 2) (m := 12) (o := none) (by decide +kernel) (by decide +kernel) S
  have s5 := safe_by K5ok (r := 1) (g := 2) (m := 12) (o := some [1, 3, 2]) (by decide +kernel) (by decide +kernel) S
  have s6 := safe_by K6ok (r := 1) (g := 2) (m := 2) (o := some [1, 0, 2]) (by decide +kernel) (by decide +kernel) S
  have s7 := safe_by K7ok (r := 0) (g := 3) (m := 2) (o := some [0, 1, 3]) (by decide +kernel) (by decide +kernel) S
  have s8 := safe_by K1ok (r := 0) (g := 0) (m := 0) (o := some [0]) (by decide +kernel) (by decide +kernel) S
  have n1 := ne_eR [0, 1] [0, 1]
  have n2 := ne_eR [0, 1, 2] [0, 1, 2]
  have n3 := ne_eR [1, 3, 2] [1, 3, 2]
  have n4 := ne_eR [1, 0, 2] [1, 0, 2]
  have n5 := eq_eR' [0, 1, 3] [0, 1, 3]
  have n6 := eq_eR' [0] [0]
  have i5 : ixD S (eH K5) (.int 1) = some (.tup (K5.doors.map eP)) := rfl
  have h5 : (D.tup [.int 4, .tup [.tup [.int 0, .int 1], .tup [.int 0, .int 2], .tup [.int 1, .int 3], .tup [.int 2, .int 3]], .tup [.tup [.int 0]]]) = eH K5 := rfl
  have h6 : (D.tup [.int 4, .tup (K5.doors.map eP), .tup [.tup [.int 3]]]) = eH K6 := rfl
  have h7 : (D.tup [.int 5, .tup [.tup [.int 0, .int 1], .tup [.int 0, .int 2], .tup [.int 1, .int 3], .tup [.int 2, .int 3], .tup [.int 3, .int 4]], .tup [.tup [.int 4]]]) = eH K7 := rfl
  have r1 : ∀ a : Int, D.tup [.int a] = eR [a] := fun _ => rfl
  have r2 : ∀ a b : Int, D.tup [.int a, .int b] = eR [a, b] := fun _ _ => rfl
  have r3 : ∀ a b c : Int, D.tup [.int a, .int b, .int c] = eR [a, b, c] := fun _ _ _ => rfl
  have r5 : ∀ a b c d e : Int, D.tup [.int a, .int b, .int c, .int d, .int e] = eR [a, b, c, d, e] := fun _ _ _ _ _ => rfl
  have is1 : cmpD .IsNot (oR none) .non = some (.bl false) := rfl
  have os : ∀ r, oR (some r) = eR r := fun _ => rfl
  simp only [os] at s1 s2 s5 s6 s7 s8
  unfold g__law_written
  rw [runF_ap]
  unfold F__law_written
  rw [seqF_ap]
  refine out_bnd (P := fun q => q = Res.ok (D.bl true) S) [.val (eH K1), .val (eH K2), .val (eH K3), .val (eH K4), .un, .un] S (by simp [p_known, sd0]) ?_
  rw [seqF_ap]
  refine out_bnd (P := fun q => q = Res.ok (D.bl true) S) [.val (eH K1), .val (eH K2), .val (eH K3), .val (eH K4), .un, .un] S (by simp only [ofM_ap, orT_ap, notT_ap, valT_ap, callE_ap, consA_ap, getv_ap, tupE_ap, litE_ap, nilA_ap, List.getElem?_cons_zero, List.getElem?_cons_succ, slotR_val, bnd_ok, List.length_cons, List.length_nil, Nat.zero_add, Nat.reduceAdd, if_pos one, if_pos two, if_pos five, liftR_some, r1, r2, r5, u1, u2, u3, asB_bl, Bool.not_true, Bool.false_eq_true, if_false, stm_ok, ifF_ap, nxF_ap]) ?_
  rw [seqF_ap]
  refine out_bnd (P := fun q => q = Res.ok (D.bl true) S) [.val (eH K1), .val (eH K2), .val (eH K3), .val (eH K4), .un, .un] S (by simp only [ofM_ap, orT_ap, notT_ap, valT_ap, callE_ap, opE_ap, consA_ap, getv_ap, tupE_ap, litE_ap, nilA_ap, List.getElem?_cons_zero, List.getElem?_cons_succ, slotR_val, bnd_ok, List.length_cons, List.length_nil, Nat.zero_add, Nat.reduceAdd, if_pos two, if_pos three, liftR_some, r2, r3, s1, s2, n1, n2, decide_true, asB_bl, Bool.not_true, Bool.false_eq_true, if_false, stm_ok, ifF_ap, nxF_ap]) ?_
  rw [seqF_ap]
  refine out_bnd (P := fun q => q = Res.ok (D.bl true) S) [.val (eH K1), .val (eH K2), .val (eH K3), .val (eH K4), .un, .un] S (by simp only [ofM_ap, orT_ap, notT_ap, valT_ap, callE_ap, opE_ap, consA_ap, getv_ap, tupE_ap, litE_ap, nilA_ap, List.getElem?_cons_zero, List.getElem?_cons_succ, slotR_val, bnd_ok, liftR_some, s3, s4, is1, asB_bl, Bool.not_true, Bool.false_eq_true, if_false, stm_ok, ifF_ap, nxF_ap]) ?_
  rw [seqF_ap]
  refine out_bnd (P := fun q => q = Res.ok (D.bl true) S) [.val (eH K1), .val (eH K2), .val (eH K3), .val (eH K4), .val (eH K5), .un] S (by
    simp only [ofM_ap, consA_ap, tupE_ap, litE_ap, nilA_ap, bnd_ok, List.length_cons, List.length_nil, Nat.zero_add, Nat.reduceAdd, if_pos one, if_pos two, if_pos three, if_pos four, liftR_some, h5, stm_ok, setF_ap, List.set_cons_succ, List.set_cons_zero]) ?_
  rw [seqF_ap]
  refine out_bnd (P := fun q => q = Res.ok (D.bl true) S) [.val (eH K1), .val (eH K2), .val (eH K3), .val (eH K4), .val (eH K5), .un] S (by
    simp only [ofM_ap, orT_ap, valT_ap, callE_ap, opE_ap, consA_ap, getv_ap, getb_ap, ixE_ap, tupE_ap, litE_ap, nilA_ap, List.getElem?_cons_zero, List.getElem?_cons_succ, slotR_val, slotB_val, bnd_ok, List.length_cons, List.length_nil, Nat.zero_add, Nat.reduceAdd, if_pos one, if_pos three, liftR_some, i5, h6, r3, s5, s6, n3, n4, decide_true, asB_bl, Bool.not_true, Bool.false_eq_true, if_false, stm_ok, ifF_ap, nxF_ap]) ?_
  rw [seqF_ap]
  refine out_bnd (P := fun q => q = Res.ok (D.bl true) S) [.val (eH K1), .val (eH K2), .val (eH K3), .val (eH K4), .val (eH K5), .val (eH K7)] S (by
    simp only [ofM_ap, consA_ap, tupE_ap, litE_ap, nilA_ap, bnd_ok, List.length_cons, List.length_nil, Nat.zero_add, Nat.reduceAdd, if_pos one, if_pos two, if_pos three, if_pos five, liftR_some, h7, stm_ok, setF_ap, List.set_cons_succ, List.set_cons_zero]) ?_
  simp only [seqF_ap, ofM_ap, andE_ap, callE_ap, opE_ap, consA_ap, getv_ap, tupE_ap, litE_ap, nilA_ap, List.getElem?_cons_zero, List.getElem?_cons_succ, slotR_val, bnd_ok, List.length_cons, List.length_nil, Nat.zero_add, Nat.reduceAdd, if_pos one, if_pos three, liftR_some, r1, r3, s7, s8, n5, n6, decide_true, asB_bl, if_true, stm_ok, retF_ap, sbnd_rt, out_rt]
theorem sameO {h : HS} {o : Option (List Int)} (ho : ∀ r, o = some r → r.length < 100000) : sameOk 8 (oR o) := by
  cases o with
  | none => trivial
  | some r => 
    have := ho r rfl
    exact ⟨by rw [List.length_map]; exact lt_line (by omega), fun d hd => by obtain ⟨x, _, rfl⟩ := List.mem_map.mp hd; trivial⟩
theorem short_len {h : HS} {sm : List (List Int)} {g : Int} : ∀ (n : Nat) {L : List (List Int)} {k : Nat}, (∀ w ∈ L, w.length ≤ k) → ∀ r, shortB h sm g n L = some r → r.length ≤ k + n
  | 0, _, _, _, r, e => by cases e
  | n + 1, L, k, hL, r, e => by
    unfold shortB at e
    cases hl : L.filter fun w => decide (lastI w = g) with
    | nil =>
      rw [hl] at e
      have q := short_len n (L := longB h sm L) (k := k + 1) (fun w hw => by
        unfold longB at hw
        simp only [List.mem_flatMap, List.mem_map] at hw
        obtain ⟨row, hr, x, _, rfl⟩ := hw
        have := hL row hr
        simp; omega) r e
      omega
    | cons b bs =>
      rw [hl] at e
      have e : some (minR b bs) = some r := e
      cases e
      obtain ⟨m, _⟩ := minR_spec bs b
      have m2 : minR b bs ∈ L.filter fun w => decide (lastI w = g) := by rw [hl]; exact m
      have := hL _ (List.mem_filter.mp m2).1
      omega
theorem law_true (ns : List Int) (hns : ns.length ≤ 63) : ∃ S', g_law [.lst (ns.map .int)] [] = .ok (.bl true) S' := by
  have zero : 0 ≤ sizeLine := by decide
  have three : 3 ≤ sizeLine := by decide
  have four : 4 ≤ sizeLine := by decide
  have five : 5 ≤ sizeLine := by decide
  have b2 := big62_of (i := 2) (by omega) (by omega)
  have b4 := big62_of (i := 4) (by omega) (by omega)
  suffices hs : ∀ P : Res D → Prop, (∀ S', P (.ok (.bl true) S')) → P (g_law [.lst (ns.map .int)] []) by
    exact hs (fun q => ∃ S', q = .ok (.bl true) S') fun S' => ⟨S', rfl⟩
  intro P hP
  have e0 : g_law [.lst (ns.map .int)] [] = (F_law [.val (.lst (ns.map .int)), .un, .un, .un, .un, .un, .un, .un, .un, .un, .un, .un] []).out := by
    unfold g_law
    rw [runF_ap]; rfl
  rw [e0]
  unfold F_law
  rw [seqF_ap, ofM_ap, cells_of ns hns, stm_ok]
  refine for_go (P := fun q => P (So.bnd q _).out) (en := D.int) ((0 :: ns).take 10) (fun xs sd S' => ∃ x1 x2 x3 x4 x5 x6 x7 x8 x9 x10 x11, sd = [.val (.lst (ns.map .int)), x1, x2, x3, x4, x5, x6, x7, x8, x9, x10, x11]) ?_ ?_ ?_
  · rintro cell cells sd S ⟨x1, x2, x3, x4, x5, x6, x7, x8, x9, x10, x11, rfl⟩
    obtain ⟨S1, e1, d1, _, _⟩ := p_deck cell 3 (by omega) S
    refine ⟨[.val (.lst (ns.map .int)), .val (.int cell), x2, x3, x4, x5, x6, x7, x8, x9, x10, x11], by simp, ?_⟩
    have r2 : ((List.range (2 : Int).toNat).map fun i : Nat => D.int (0 + (i : Int))) = (List.range 2).map fun i : Nat => D.int (i : Int) := by simp
    have r4 : ((List.range (4 : Int).toNat).map fun i : Nat => D.int (0 + (i : Int))) = (List.range 4).map fun i : Nat => D.int (i : Int) := by simp
    simp only [seqF_ap, ofM_ap, callE_ap, consA_ap, getv_ap, litE_ap, nilA_ap, bnd_ok, List.getElem?_cons_succ, List.getElem?_cons_zero, slotR_val, e1, stm_ok, setF_ap, sbnd_nx, List.set_cons_succ, List.set_cons_zero, rngI_ap, range_one b2, liftR_some]
    rw [r2]
    generalize S.length = j at d1
    refine for_go (P := fun q => (So.bnd q _).sat _ _) (en := fun i : Nat => D.int (i : Int)) (List.range 2) (fun xs sd S' => ∃ x3 x4 x5 x6 x7 x8 x9 x10, sd = [.val (.lst (ns.map .int)), .val (.int cell), .val (.loc j), x3, x4, x5, x6, x7, x8, x9, x10, x11] ∧ (∃ c', DeckAt S' j c' ∧ c' + 10000 * xs.length ≤ 100000) ∧ (xs.length = 2 ∨ ∃ h, HouseD h 5 ∧ x4 = .val (eH h))) ?_ ?_ ?_
    · rintro t ts sd S2 ⟨x3, x4, x5, x6, x7, x8, x9, x10, rfl, ⟨c', d2, hc'⟩, _⟩
      simp only [List.length_cons] at hc'
      refine ⟨[.val (.lst (ns.map .int)), .val (.int cell), .val (.loc j), .val (.int (t : Int)), x4, x5, x6, x7, x8, x9, x10, x11], by simp, ?_⟩
      obtain ⟨h, S3, e3, r3, HD⟩ := p_a_house d2 (by omega) (m := 5) (g := 2) (by omega) (by omega) (by omega) (by omega)
      have H := HD.ok
      have R := H.rowsOk
      have n2 := H.n2
      have n6 := H.n6
      simp only [seqF_ap, ofM_ap, callE_ap, consA_ap, getv_ap, litE_ap, nilA_ap, bnd_ok, List.getElem?_cons_succ, List.getElem?_cons_zero, slotR_val, e3, stm_ok, setF_ap, sbnd_nx, List.set_cons_succ, List.set_cons_zero, rngI_ap, range_one b4, liftR_some]
      rw [r4]
      refine for_go (P := fun q => (So.bnd q _).sat _ _) (en := fun i : Nat => D.int (i : Int)) (List.range 4) (fun xs sd S' => ∃ x5 x6, sd = [.val (.lst (ns.map .int)), .val (.int cell), .val (.loc j), .val (.int (t : Int)), .val (eH h), x5, x6, x7, x8, x9, x10, x11] ∧ (∃ c1, DeckAt S' j c1 ∧ c1 + 1001 * xs.length ≤ c' + 100 + 4004)) ?_ ?_ ?_
      · rintro u us sd S4 ⟨x5, x6, rfl, c1, d4, hc1⟩
        simp only [List.length_cons] at hc1
        refine ⟨[.val (.lst (ns.map .int)), .val (.int cell), .val (.loc j), .val (.int (t : Int)), .val (eH h), .val (.int (u : Int)), x6, x7, x8, x9, x10, x11], by simp, ?_⟩
        obtain ⟨k, S5, e5, k0, k1, r5⟩ := p_pick (m := 5) d4 (by omega) (by omega) (by omega)
        obtain ⟨w, S6, e6, r6, hw, hl⟩ := p_a_walk H r5.deck (by omega) (m := 1 + k) (by omega) (by omega)
        have su := p_surely H hw (show w.length ≤ 100 by omega) S6
        have lf := p_law_free H hw.ne (show w.length < 1000000 by omega) S6
        have sm := p_same 8 (.bl (unmetB h w)) S6 trivial
        refine sat_of [.val (.lst (ns.map .int)), .val (.int cell), .val (.loc j), .val (.int (t : Int)), .val (eH h), .val (.int (u : Int)), .val (eR w), x7, x8, x9, x10, x11] S6 ?_ ⟨_, _, rfl, _, r6.deck, by omega⟩
        simp [e5, e6, su, lf, sm]
      · exact ⟨_, _, rfl, _, r3.deck, by rw [List.length_range]; omega⟩
      · rintro sd' S4 ⟨x5, x6, rfl, c1, d4, hc1⟩
        obtain ⟨a, S5, e5, a0, a1, r5⟩ := p_pick (m := h.n) d4 (by omega) (by omega) (by omega)
        obtain ⟨b, S6, e6, b0, b1, r6⟩ := p_pick (m := h.n) r5.deck (by omega) (by omega) (by omega)
        simp only [sbnd_nx, seqF_ap, ofM_ap, consA_ap, callE_ap, getv_ap, getb_ap, ixE_ap, litE_ap, nilA_ap, tupE_ap, seqI_ap, bnd_ok, List.getElem?_cons_succ, List.getElem?_cons_zero, slotR_val, slotB_val, ixH0_, liftR_some, e5, e6, stm_ok, parF_ap, List.set_cons_succ, List.set_cons_zero, List.length_cons, List.length_nil, Nat.zero_add, Nat.reduceAdd, if_pos three, itemsD_tup]
        refine for_go (P := fun q => (So.bnd q _).sat _ _) (en := D.int) [0, 1, 3] (fun ms sd S' => S' = S6 ∧ (∀ m ∈ ms, 0 ≤ m ∧ m ≤ 3) ∧ ∃ x9 x10, sd = [.val (.lst (ns.map .int)), .val (.int cell), .val (.loc j), .val (.int (t : Int)), .val (eH h), x5, x6, .val (.int a), .val (.int b), x9, x10, x11]) ?_ ?_ ?_
        · rintro m ms sd S7 ⟨rfl, hm, x9, x10, rfl⟩
          obtain ⟨m0, m1⟩ := hm m (List.mem_cons_self ..)
          refine ⟨[.val (.lst (ns.map .int)), .val (.int cell), .val (.loc j), .val (.int (t : Int)), .val (eH h), x5, x6, .val (.int a), .val (.int b), .val (.int m), x10, x11], by simp, ?_⟩
          have p1 := p_shortest H a0 a1 (g := b) m0 m1 S7
          have p2 := p_safe_walk H a0 a1 b0 b1 m0 (show m ≤ 12 by omega) S7
          have sm := p_same 8 _ S7 (sameO (h := h) fun r hr => by
            have := short_len (h := h) (sm := freeB h a) (g := b) (m + 1).toNat (L := [[a]]) (k := 1) (fun w hw => by rw [List.mem_singleton.mp hw]; exact Nat.le_refl _) r hr
            omega)
          refine sat_of [.val (.lst (ns.map .int)), .val (.int cell), .val (.loc j), .val (.int (t : Int)), .val (eH h), x5, x6, .val (.int a), .val (.int b), .val (.int m), .val (oR (shortB h (freeB h a) b (m + 1).toNat [[a]])), x11] S7 (by simp [p1, p2, sm]) ⟨rfl, fun c hc => hm c (List.mem_cons_of_mem _ hc), _, _, rfl⟩
        · refine ⟨rfl, fun m hm => ?_, _, _, rfl⟩
          simp only [List.mem_cons, List.not_mem_nil, or_false] at hm
          rcases hm with rfl | rfl | rfl <;> omega
        · rintro sd' S7 ⟨rfl, _, x9, x10, rfl⟩
          rw [sbnd_nx, nxF_ap]
          exact .nx ⟨_, _, _, _, _, _, _, _, rfl, ⟨_, r6.deck, by omega⟩, .inr ⟨h, HD, rfl⟩⟩
    · exact ⟨_, _, _, _, _, _, _, _, rfl, ⟨_, d1, by rw [List.length_range]; decide⟩, .inl (by rw [List.length_range])⟩
    · rintro sd' S2 ⟨x3, x4, x5, x6, x7, x8, x9, x10, rfl, _, hh⟩
      rcases hh with hh | ⟨h, HD, rfl⟩
      · exact absurd hh (by decide)
      have H := HD.ok
      have n2 := H.n2
      have n6 := H.n6
      have nh : g_need_house [.non] S2 = .exc ⟨0, none⟩ S2 := by rfl
      have t1 : tryE labK (callE g_surely_unmet (consA (litE .non) (consA (litE .non) nilA))) [.val (.lst (ns.map .int)), .val (.int cell), .val (.loc j), x3, .val (eH h), x5, x6, x7, x8, x9, x10, x11] S2 = .ok (.str (labK 0)) S2 := tryE_exc (by omega) (by simp [exc_surely_house nh])
      have t2 : tryE labK (callE g_surely_unmet (consA (getv 4) (consA (tupE nilA) nilA))) [.val (.lst (ns.map .int)), .val (.int cell), .val (.loc j), x3, .val (eH h), x5, x6, x7, x8, x9, x10, x11] S2 = .ok (.str (labK 4)) S2 := tryE_exc (by omega) (by simp [zero, exc_surely_walk (need_ok H S2) (noWalk_nil S2)])
      have t3 : tryE labK (callE g_safe_walk (consA (litE .non) (consA (litE .non) (consA (litE .non) (consA (litE .non) nilA))))) [.val (.lst (ns.map .int)), .val (.int cell), .val (.loc j), x3, .val (eH h), x5, x6, x7, x8, x9, x10, x11] S2 = .ok (.str (labK 0)) S2 := tryE_exc (by omega) (by simp [exc_safe_house nh])
      have u0 : liftR (cmpD .NotEq (.str (labK 0)) (.str "house +")) S2 = .ok (.bl false) S2 := lab_no 0 (by omega) S2
      have u4 : liftR (cmpD .NotEq (.str (labK 4)) (.str "walk +")) S2 = .ok (.bl false) S2 := lab_no 4 (by omega) S2
      have hodd : (seqI (lstE (consA (litE .non) (consA (negE (litE (.int 1))) (consA (ixE (getb 4) (litE (.int 0))) (consA (litE (.bl true)) (consA (litE (.str "0")) nilA))))))) [.val (.lst (ns.map .int)), .val (.int cell), .val (.loc j), x3, .val (eH h), x5, x6, x7, x8, x9, x10, x11] S2 = .ok ([.non, .int (-1), .int h.n, .bl true, .str "0"].map id) S2 := by
        simp only [seqI_ap, lstE_ap, consA_ap, litE_ap, nilA_ap, negE_ap, ixE_ap, getb_ap, bnd_ok, List.getElem?_cons_succ, List.getElem?_cons_zero, slotB_val, ixH0_, liftR_some, negM_int, List.length_cons, List.length_nil, Nat.zero_add, Nat.reduceAdd, if_pos five, itemsD_lst]
        rfl
      simp only [sbnd_nx, seqF_ap, ofM_ap, valT_ap, opE_ap, t1, t2, t3, litE_ap, bnd_ok, u0, u4, asB_bl, stm_ok, ifF_ap, Bool.false_eq_true, if_false, nxF_ap, hodd]
      refine for_go (P := fun q => (So.bnd q _).sat _ _) (en := id) [.non, .int (-1), .int h.n, .bl true, .str "0"] (fun ds sd S' => S' = S2 ∧ (∀ d ∈ ds, NoRoom h d) ∧ ∃ x11, sd = [.val (.lst (ns.map .int)), .val (.int cell), .val (.loc j), x3, .val (eH h), x5, x6, x7, x8, x9, x10, x11]) ?_ ?_ ?_
      · rintro d ds sd S4 ⟨rfl, hds, y11, rfl⟩
        refine ⟨[.val (.lst (ns.map .int)), .val (.int cell), .val (.loc j), x3, .val (eH h), x5, x6, x7, x8, x9, x10, .val d], by simp, ?_⟩
        have nd := hds d (List.mem_cons_self ..) S4
        have t1 : tryE labK (callE g_safe_walk (consA (getv 4) (consA (getv 11) (consA (litE .non) (consA (litE .non) nilA))))) [.val (.lst (ns.map .int)), .val (.int cell), .val (.loc j), x3, .val (eH h), x5, x6, x7, x8, x9, x10, .val d] S4 = .ok (.str (labK 3)) S4 := tryE_exc (by omega) (by simp [exc_safe_room (need_ok H S4) nd])
        have t2 : tryE labK (callE g_safe_walk (consA (getv 4) (consA (litE (.int 0)) (consA (getv 11) (consA (litE .non) nilA))))) [.val (.lst (ns.map .int)), .val (.int cell), .val (.loc j), x3, .val (eH h), x5, x6, x7, x8, x9, x10, .val d] S4 = .ok (.str (labK 3)) S4 := tryE_exc (by omega) (by simp [exc_safe_goal (need_ok H S4) (room_ok (r := 0) (by omega) (by omega) S4) nd])
        have u3 : liftR (cmpD .NotEq (.str (labK 3)) (.str "room +")) S4 = .ok (.bl false) S4 := lab_no 3 (by omega) S4
        refine sat_of _ S4 (by simp [t1, t2, u3]; rfl) ⟨rfl, fun c hc => hds c (List.mem_cons_of_mem _ hc), _, rfl⟩
      · refine ⟨rfl, fun d hd => ?_, _, rfl⟩
        simp only [List.mem_cons, List.not_mem_nil, or_false] at hd
        rcases hd with rfl | rfl | rfl | rfl | rfl
        · exact noRoom_non
        · exact noRoom_int (by omega)
        · exact noRoom_int (by omega)
        · exact noRoom_bl _
        · exact noRoom_str _
      · rintro sd' S4 ⟨rfl, _, y11, rfl⟩
        have hodd2 : (seqI (lstE (consA (litE .non) (consA (negE (litE (.int 1))) (consA (litE (.int 13)) (consA (litE (.bl true)) nilA)))))) [.val (.lst (ns.map .int)), .val (.int cell), .val (.loc j), x3, .val (eH h), x5, x6, x7, x8, x9, x10, y11] S4 = .ok ([.non, .int (-1), .int 13, .bl true].map id) S4 := by
          simp only [seqI_ap, lstE_ap, consA_ap, litE_ap, nilA_ap, negE_ap, bnd_ok, negM_int, List.length_cons, List.length_nil, Nat.zero_add, Nat.reduceAdd, if_pos four, liftR_some, itemsD_lst]
          rfl
        simp only [sbnd_nx, seqF_ap, ofM_ap, hodd2, stm_ok]
        refine for_go (P := fun q => (So.bnd q _).sat _ _) (en := id) [.non, .int (-1), .int 13, .bl true] (fun ds sd S' => S' = S4 ∧ (∀ d ∈ ds, ∀ S, g_is_within [d, .int 0, .int 12] S = .ok (.bl false) S) ∧ ∃ x11, sd = [.val (.lst (ns.map .int)), .val (.int cell), .val (.loc j), x3, .val (eH h), x5, x6, x7, x8, x9, x10, x11]) ?_ ?_ ?_
        · rintro d ds sd S5 ⟨rfl, hds, z11, rfl⟩
          refine ⟨[.val (.lst (ns.map .int)), .val (.int cell), .val (.loc j), x3, .val (eH h), x5, x6, x7, x8, x9, x10, .val d], by simp, ?_⟩
          have nd := hds d (List.mem_cons_self ..) S5
          have r0 := room_ok (h := h) (r := 0) (by omega) (by omega) S5
          have t1 : tryE labK (callE g_safe_walk (consA (getv 4) (consA (litE (.int 0)) (consA (litE (.int 0)) (consA (getv 11) nilA))))) [.val (.lst (ns.map .int)), .val (.int cell), .val (.loc j), x3, .val (eH h), x5, x6, x7, x8, x9, x10, .val d] S5 = .ok (.str (labK 9)) S5 := tryE_exc (by omega) (by simp [exc_safe_most (need_ok H S5) r0 r0 nd])
          have u3 : liftR (cmpD .NotEq (.str (labK 9)) (.str "number +")) S5 = .ok (.bl false) S5 := lab_no 9 (by omega) S5
          refine sat_of _ S5 (by simp [t1, u3]; rfl) ⟨rfl, fun c hc => hds c (List.mem_cons_of_mem _ hc), _, rfl⟩
        · refine ⟨rfl, fun d hd S => ?_, _, rfl⟩
          simp only [List.mem_cons, List.not_mem_nil, or_false] at hd
          rcases hd with rfl | rfl | rfl | rfl
          · exact p_within_non _ _ S
          · rw [p_is_within]; rfl
          · rw [p_is_within]; rfl
          · exact p_within_bl _ _ _ S
        · rintro sd' S5 ⟨rfl, _, z11, rfl⟩
          rw [sbnd_nx]
          exact .nx ⟨_, _, _, _, _, _, _, _, _, _, _, rfl⟩
  · exact ⟨_, _, _, _, _, _, _, _, _, _, _, rfl⟩
  · rintro sd' S ⟨x1, x2, x3, x4, x5, x6, x7, x8, x9, x10, x11, rfl⟩
    simp only [sbnd_nx, seqF_ap, ofM_ap, callE_ap, nilA_ap, bnd_ok, written, stm_ok, retF_ap, sbnd_rt, out_rt]
    exact hP S
end Q
set_option Elab.async false
set_option linter.all false
set_option maxRecDepth 100000
set_option maxHeartbeats 0
namespace Q
open PySem PySem.Spec PyProof.Rows L2 LamX
def fnl0 : List He.DefD := [dd "is_within" (topS 20), dd "has_items" (topS 21), dd "ascends" (topS 22), dd "are_doors" (topS 23), dd "is_near" (topS 24), dd "is_row" (topS 25), dd "product_of" (topS 26), dd "is_house_value" (topS 27), dd "need_house" (topS 28), dd "need_room" (topS 29), dd "need_walk" (topS 30), dd "all_beginnings" (topS 31), dd "rooms_at" (topS 32), dd "is_met" (topS 34), dd "first_met" (topS 35), dd "free_ones" (topS 36), dd "is_unmet" (topS 37), dd "surely_unmet" (topS 38), dd "safe_walk" (topS 39), dd "longer_rows" (topS 40), dd "_law_deck" (topS 42), dd "_law_pick" (topS 43), dd "_law_one" (topS 44), dd "_law_sort" (topS 45), dd "_law_same" (topS 46), dd "_law_kin" (topS 47), dd "_law_try" (topS 48), dd "_law_known" (topS 49), dd "_law_by" (topS 50), dd "_law_a_round" (topS 51)]
def fnl1 : List He.DefD := [dd "_law_a_house" (topS 52), dd "_law_starts" (topS 53), dd "_law_there" (topS 54), dd "_law_a_walk" (topS 55), dd "_law_caught" (topS 56), dd "_law_free" (topS 57), dd "_law_shortest" (topS 58), dd "_law_written" (topS 59), dd "law" (topS 60)]
def fnl : List He.DefD := fnl0 ++ fnl1
def fal0 : List He.Fa := [.glo "is_within", .glo "has_items", .glo "ascends", .glo "are_doors", .glo "is_near", .glo "is_row", .glo "product_of", .glo "is_house_value", .glo "need_house", .glo "need_room", .glo "need_walk", .glo "all_beginnings", .glo "rooms_at", .glo "is_met", .glo "first_met", .glo "free_ones", .glo "is_unmet", .glo "surely_unmet", .glo "safe_walk", .glo "longer_rows", .glo "_law_deck", .glo "_law_pick", .glo "_law_one", .glo "_law_sort", .glo "_law_same", .glo "_law_kin", .glo "_law_try", .glo "_law_known", .glo "_law_by", .glo "_law_a_round"]
def fal1 : List He.Fa := [.glo "_law_a_house", .glo "_law_starts", .glo "_law_there", .glo "_law_a_walk", .glo "_law_caught", .glo "_law_free", .glo "_law_shortest", .glo "_law_written", .glo "law", .free "all", .free "any", .free "bool", .free "enumerate", .free "int", .free "isinstance", .free "len", .free "list", .free "max", .free "min", .free "range", .free "sorted", .free "str", .free "tuple", .free "zip", .glo "InvalidHouse", .glo "InvalidBeginning", .glo "InvalidTick", .glo "InvalidRoom", .glo "InvalidWalk", .glo "InvalidSights"]
def fal2 : List He.Fa := [.glo "InvalidStand", .glo "InvalidLot", .glo "InvalidChange", .glo "InvalidNumber", .glo "InvalidIndex", .glo "BadStep", .glo "NoBeginning", .glo "Unlike", .glo "NothingToUndo", .glo "TooMany", .glo "InvalidText", .exc "InvalidHouse", .exc "InvalidRoom", .exc "InvalidWalk", .exc "InvalidNumber", .glo "PatrolError", .exm "InvalidHouse" "InvalidText" false, .exm "InvalidHouse" "TooMany" false, .exm "InvalidHouse" "PatrolError" true, .exm "InvalidBeginning" "InvalidText" false, .exm "InvalidBeginning" "TooMany" false, .exm "InvalidBeginning" "PatrolError" true, .exm "InvalidTick" "InvalidText" false, .exm "InvalidTick" "TooMany" false, .exm "InvalidTick" "PatrolError" true, .exm "InvalidRoom" "InvalidText" false, .exm "InvalidRoom" "TooMany" false, .exm "InvalidRoom" "PatrolError" true, .exm "InvalidWalk" "InvalidText" false, .exm "InvalidWalk" "TooMany" false]
def fal3 : List He.Fa := [.exm "InvalidWalk" "PatrolError" true, .exm "InvalidSights" "InvalidText" false, .exm "InvalidSights" "TooMany" false, .exm "InvalidSights" "PatrolError" true, .exm "InvalidStand" "InvalidText" false, .exm "InvalidStand" "TooMany" false, .exm "InvalidStand" "PatrolError" true, .exm "InvalidLot" "InvalidText" false, .exm "InvalidLot" "TooMany" false, .exm "InvalidLot" "PatrolError" true, .exm "InvalidChange" "InvalidText" false, .exm "InvalidChange" "TooMany" false, .exm "InvalidChange" "PatrolError" true, .exm "InvalidNumber" "InvalidText" false, .exm "InvalidNumber" "TooMany" false, .exm "InvalidNumber" "PatrolError" true, .exm "InvalidIndex" "InvalidText" false, .exm "InvalidIndex" "TooMany" false, .exm "InvalidIndex" "PatrolError" true, .exm "BadStep" "InvalidText" false, .exm "BadStep" "TooMany" false, .exm "BadStep" "PatrolError" true, .exm "NoBeginning" "InvalidText" false, .exm "NoBeginning" "TooMany" false, .exm "NoBeginning" "PatrolError" true, .exm "Unlike" "InvalidText" false, .exm "Unlike" "TooMany" false, .exm "Unlike" "PatrolError" true, .exm "NothingToUndo" "InvalidText" false, .exm "NothingToUndo" "TooMany" false]
def fal4 : List He.Fa := [.exm "NothingToUndo" "PatrolError" true]
def fal : List He.Fa := fal0 ++ fal1 ++ fal2 ++ fal3 ++ fal4
def topNames0 : List PySem.Str := ["PatrolError", "InvalidHouse", "InvalidBeginning", "InvalidTick", "InvalidRoom", "InvalidWalk", "InvalidSights", "InvalidStand", "InvalidLot", "InvalidChange", "InvalidNumber", "InvalidIndex", "BadStep", "NoBeginning", "Unlike", "NothingToUndo", "TooMany", "InvalidText", "is_within", "has_items"]
def topNames1 : List PySem.Str := ["ascends", "are_doors", "is_near", "is_row", "product_of", "is_house_value", "need_house", "need_room", "need_walk", "all_beginnings", "rooms_at", "is_met", "first_met", "free_ones", "is_unmet", "surely_unmet", "safe_walk", "longer_rows", "_law_deck", "_law_pick"]
def topNames2 : List PySem.Str := ["_law_one", "_law_sort", "_law_same", "_law_kin", "_law_try", "_law_known", "_law_by", "_law_a_round", "_law_a_house", "_law_starts", "_law_there", "_law_a_walk", "_law_caught", "_law_free", "_law_shortest", "_law_written"]
def topNames : List PySem.Str := topNames0 ++ topNames1 ++ topNames2
def fnNames0 : List PySem.Str := ["is_within", "has_items", "ascends", "are_doors", "is_near", "is_row", "product_of", "is_house_value", "need_house", "need_room", "need_walk", "all_beginnings", "rooms_at", "is_met", "first_met", "free_ones", "is_unmet", "surely_unmet", "safe_walk", "longer_rows"]
def fnNames1 : List PySem.Str := ["_law_deck", "_law_pick", "_law_one", "_law_sort", "_law_same", "_law_kin", "_law_try", "_law_known", "_law_by", "_law_a_round", "_law_a_house", "_law_starts", "_law_there", "_law_a_walk", "_law_caught", "_law_free", "_law_shortest", "_law_written", "law"]
def fnNames : List PySem.Str := fnNames0 ++ fnNames1
def tbQ (P : Program) (w : World) (K : PySem.W.Frag) (tabs : List (Addr × Str)) : Tb := ⟨P, w, K, fun i => (fnNames[i]?).map (He.ga K), fun k => if k < 17 then (kinN[k]?).map (He.ga K) else none, tabs⟩
theorem gs_of {P : Program} {w : World} {K : PySem.W.Frag} {h base : Heap} {mg : Str → Option Value} (X : K.In h) (G : h.Ns mainGlobals mg) (c : He.SaysD fal fnl K) (cx : (xkB kinN btK) K = true) {c0 P0 : Addr} (l0 : ∃ oc od fd osl, K.lookup (He.ga K "law") = some ⟨oc, od, .func fd, osl⟩ ∧ fd.code = .ref c0) (t0 : TabB base mg c0 P0)  : Gs (tbQ P w K [(P0, (envOfC "law" (defScope (topS 60)) 0 0 .none).qual ++ "<lambda>")]) mg base where
  d_is_within := by
    obtain ⟨fd, F⟩ := c.def_ 0 (d := dd "is_within" (topS 20)) rfl
    exact ⟨"is_within", _, fd, funD_fun F, FunD.bindsN F fun _ _ _ _ _ _ us hl => match us, hl with | [_, _, _], _ => rfl, rfl, He.glo_ok X G (c.fact 0 (f := .glo "is_within") rfl)⟩
  d_has_items := by
    obtain ⟨fd, F⟩ := c.def_ 1 (d := dd "has_items" (topS 21)) rfl
    exact ⟨"has_items", _, fd, funD_fun F, FunD.bindsN F fun _ _ _ _ _ _ us hl => match us, hl with | [_, _, _], _ => rfl, rfl, He.glo_ok X G (c.fact 1 (f := .glo "has_items") rfl)⟩
  d_ascends := by
    obtain ⟨fd, F⟩ := c.def_ 2 (d := dd "ascends" (topS 22)) rfl
    exact ⟨"ascends", _, fd, funD_fun F, FunD.bindsN F fun _ _ _ _ _ _ us hl => match us, hl with | [_], _ => rfl, rfl, He.glo_ok X G (c.fact 2 (f := .glo "ascends") rfl)⟩
  d_are_doors := by
    obtain ⟨fd, F⟩ := c.def_ 3 (d := dd "are_doors" (topS 23)) rfl
    exact ⟨"are_doors", _, fd, funD_fun F, FunD.bindsN F fun _ _ _ _ _ _ us hl => match us, hl with | [_, _], _ => rfl, rfl, He.glo_ok X G (c.fact 3 (f := .glo "are_doors") rfl)⟩
  d_is_near := by
    obtain ⟨fd, F⟩ := c.def_ 4 (d := dd "is_near" (topS 24)) rfl
    exact ⟨"is_near", _, fd, funD_fun F, FunD.bindsN F fun _ _ _ _ _ _ us hl => match us, hl with | [_, _, _], _ => rfl, rfl, He.glo_ok X G (c.fact 4 (f := .glo "is_near") rfl)⟩
  d_is_row := by
    obtain ⟨fd, F⟩ := c.def_ 5 (d := dd "is_row" (topS 25)) rfl
    exact ⟨"is_row", _, fd, funD_fun F, FunD.bindsN F fun _ _ _ _ _ _ us hl => match us, hl with | [_, _, _, _], _ => rfl, rfl, He.glo_ok X G (c.fact 5 (f := .glo "is_row") rfl)⟩
  d_product_of := by
    obtain ⟨fd, F⟩ := c.def_ 6 (d := dd "product_of" (topS 26)) rfl
    exact ⟨"product_of", _, fd, funD_fun F, FunD.bindsN F fun _ _ _ _ _ _ us hl => match us, hl with | [_], _ => rfl, rfl, He.glo_ok X G (c.fact 6 (f := .glo "product_of") rfl)⟩
  d_is_house_value := by
    obtain ⟨fd, F⟩ := c.def_ 7 (d := dd "is_house_value" (topS 27)) rfl
    exact ⟨"is_house_value", _, fd, funD_fun F, FunD.bindsN F fun _ _ _ _ _ _ us hl => match us, hl with | [_], _ => rfl, rfl, He.glo_ok X G (c.fact 7 (f := .glo "is_house_value") rfl)⟩
  d_need_house := by
    obtain ⟨fd, F⟩ := c.def_ 8 (d := dd "need_house" (topS 28)) rfl
    exact ⟨"need_house", _, fd, funD_fun F, FunD.bindsN F fun _ _ _ _ _ _ us hl => match us, hl with | [_], _ => rfl, rfl, He.glo_ok X G (c.fact 8 (f := .glo "need_house") rfl)⟩
  d_need_room := by
    obtain ⟨fd, F⟩ := c.def_ 9 (d := dd "need_room" (topS 29)) rfl
    exact ⟨"need_room", _, fd, funD_fun F, FunD.bindsN F fun _ _ _ _ _ _ us hl => match us, hl with | [_, _], _ => rfl, rfl, He.glo_ok X G (c.fact 9 (f := .glo "need_room") rfl)⟩
  d_need_walk := by
    obtain ⟨fd, F⟩ := c.def_ 10 (d := dd "need_walk" (topS 30)) rfl
    exact ⟨"need_walk", _, fd, funD_fun F, FunD.bindsN F fun _ _ _ _ _ _ us hl => match us, hl with | [_, _], _ => rfl, rfl, He.glo_ok X G (c.fact 10 (f := .glo "need_walk") rfl)⟩
  d_all_beginnings := by
    obtain ⟨fd, F⟩ := c.def_ 11 (d := dd "all_beginnings" (topS 31)) rfl
    exact ⟨"all_beginnings", _, fd, funD_fun F, FunD.bindsN F fun _ _ _ _ _ _ us hl => match us, hl with | [_], _ => rfl, rfl, He.glo_ok X G (c.fact 11 (f := .glo "all_beginnings") rfl)⟩
  d_rooms_at := by
    obtain ⟨fd, F⟩ := c.def_ 12 (d := dd "rooms_at" (topS 32)) rfl
    exact ⟨"rooms_at", _, fd, funD_fun F, FunD.bindsN F fun _ _ _ _ _ _ us hl => match us, hl with | [_, _, _], _ => rfl, rfl, He.glo_ok X G (c.fact 12 (f := .glo "rooms_at") rfl)⟩
  d_is_met := by
    obtain ⟨fd, F⟩ := c.def_ 13 (d := dd "is_met" (topS 34)) rfl
    exact ⟨"is_met", _, fd, funD_fun F, FunD.bindsN F fun _ _ _ _ _ _ us hl => match us, hl with | [_, _, _, _, _], _ => rfl, rfl, He.glo_ok X G (c.fact 13 (f := .glo "is_met") rfl)⟩
  d_first_met := by
    obtain ⟨fd, F⟩ := c.def_ 14 (d := dd "first_met" (topS 35)) rfl
    exact ⟨"first_met", _, fd, funD_fun F, FunD.bindsN F fun _ _ _ _ _ _ us hl => match us, hl with | [_, _, _], _ => rfl, rfl, He.glo_ok X G (c.fact 14 (f := .glo "first_met") rfl)⟩
  d_free_ones := by
    obtain ⟨fd, F⟩ := c.def_ 15 (d := dd "free_ones" (topS 36)) rfl
    exact ⟨"free_ones", _, fd, funD_fun F, FunD.bindsN F fun _ _ _ _ _ _ us hl => match us, hl with | [_, _], _ => rfl, rfl, He.glo_ok X G (c.fact 15 (f := .glo "free_ones") rfl)⟩
  d_is_unmet := by
    obtain ⟨fd, F⟩ := c.def_ 16 (d := dd "is_unmet" (topS 37)) rfl
    exact ⟨"is_unmet", _, fd, funD_fun F, FunD.bindsN F fun _ _ _ _ _ _ us hl => match us, hl with | [_, _], _ => rfl, rfl, He.glo_ok X G (c.fact 16 (f := .glo "is_unmet") rfl)⟩
  d_surely_unmet := by
    obtain ⟨fd, F⟩ := c.def_ 17 (d := dd "surely_unmet" (topS 38)) rfl
    exact ⟨"surely_unmet", _, fd, funD_fun F, FunD.bindsN F fun _ _ _ _ _ _ us hl => match us, hl with | [_, _], _ => rfl, rfl, He.glo_ok X G (c.fact 17 (f := .glo "surely_unmet") rfl)⟩
  d_safe_walk := by
    obtain ⟨fd, F⟩ := c.def_ 18 (d := dd "safe_walk" (topS 39)) rfl
    exact ⟨"safe_walk", _, fd, funD_fun F, FunD.bindsN F fun _ _ _ _ _ _ us hl => match us, hl with | [_, _, _, _], _ => rfl, rfl, He.glo_ok X G (c.fact 18 (f := .glo "safe_walk") rfl)⟩
  d_longer_rows := by
    obtain ⟨fd, F⟩ := c.def_ 19 (d := dd "longer_rows" (topS 40)) rfl
    exact ⟨"longer_rows", _, fd, funD_fun F, FunD.bindsN F fun _ _ _ _ _ _ us hl => match us, hl with | [_, _, _, _], _ => rfl, rfl, He.glo_ok X G (c.fact 19 (f := .glo "longer_rows") rfl)⟩
  d__law_deck := by
    obtain ⟨fd, F⟩ := c.def_ 20 (d := dd "_law_deck" (topS 42)) rfl
    exact ⟨"_law_deck", _, fd, funD_fun F, FunD.bindsN F fun _ _ _ _ _ _ us hl => match us, hl with | [_, _], _ => rfl, rfl, He.glo_ok X G (c.fact 20 (f := .glo "_law_deck") rfl)⟩
  d__law_pick := by
    obtain ⟨fd, F⟩ := c.def_ 21 (d := dd "_law_pick" (topS 43)) rfl
    exact ⟨"_law_pick", _, fd, funD_fun F, FunD.bindsN F fun _ _ _ _ _ _ us hl => match us, hl with | [_, _], _ => rfl, rfl, He.glo_ok X G (c.fact 21 (f := .glo "_law_pick") rfl)⟩
  d__law_one := by
    obtain ⟨fd, F⟩ := c.def_ 22 (d := dd "_law_one" (topS 44)) rfl
    exact ⟨"_law_one", _, fd, funD_fun F, FunD.bindsN F fun _ _ _ _ _ _ us hl => match us, hl with | [_, _], _ => rfl, rfl, He.glo_ok X G (c.fact 22 (f := .glo "_law_one") rfl)⟩
  d__law_sort := by
    obtain ⟨fd, F⟩ := c.def_ 23 (d := dd "_law_sort" (topS 45)) rfl
    exact ⟨"_law_sort", _, fd, funD_fun F, FunD.bindsN F fun _ _ _ _ _ _ us hl => match us, hl with | [_], _ => rfl, rfl, He.glo_ok X G (c.fact 23 (f := .glo "_law_sort") rfl)⟩
  d__law_same := by
    obtain ⟨fd, F⟩ := c.def_ 24 (d := dd "_law_same" (topS 46)) rfl
    exact ⟨"_law_same", _, fd, funD_fun F, FunD.bindsN F fun _ _ _ _ _ _ us hl => match us, hl with | [_, _], _ => rfl, rfl, He.glo_ok X G (c.fact 24 (f := .glo "_law_same") rfl)⟩
  d__law_kin := by
    obtain ⟨fd, F⟩ := c.def_ 25 (d := dd "_law_kin" (topS 47)) rfl
    exact ⟨"_law_kin", _, fd, funD_fun F, FunD.bindsN F fun _ _ _ _ _ _ us hl => match us, hl with | [_], _ => rfl, rfl, He.glo_ok X G (c.fact 25 (f := .glo "_law_kin") rfl)⟩
  d__law_try := by
    obtain ⟨fd, F⟩ := c.def_ 26 (d := dd "_law_try" (topS 48)) rfl
    exact ⟨"_law_try", _, fd, funD_fun F, FunD.bindsN F fun _ _ _ _ _ _ us hl => match us, hl with | [_], _ => rfl, rfl, He.glo_ok X G (c.fact 26 (f := .glo "_law_try") rfl)⟩
  d__law_known := by
    obtain ⟨fd, F⟩ := c.def_ 27 (d := dd "_law_known" (topS 49)) rfl
    exact ⟨"_law_known", _, fd, funD_fun F, FunD.bindsN F fun _ _ _ _ _ _ us hl => match us, hl with | [], _ => rfl, rfl, He.glo_ok X G (c.fact 27 (f := .glo "_law_known") rfl)⟩
  d__law_by := by
    obtain ⟨fd, F⟩ := c.def_ 28 (d := dd "_law_by" (topS 50)) rfl
    exact ⟨"_law_by", _, fd, funD_fun F, FunD.bindsN F fun _ _ _ _ _ _ us hl => match us, hl with | [_, _], _ => rfl, rfl, He.glo_ok X G (c.fact 28 (f := .glo "_law_by") rfl)⟩
  d__law_a_round := by
    obtain ⟨fd, F⟩ := c.def_ 29 (d := dd "_law_a_round" (topS 51)) rfl
    exact ⟨"_law_a_round", _, fd, funD_fun F, FunD.bindsN F fun _ _ _ _ _ _ us hl => match us, hl with | [_, _, _], _ => rfl, rfl, He.glo_ok X G (c.fact 29 (f := .glo "_law_a_round") rfl)⟩
  d__law_a_house := by
    obtain ⟨fd, F⟩ := c.def_ 30 (d := dd "_law_a_house" (topS 52)) rfl
    exact ⟨"_law_a_house", _, fd, funD_fun F, FunD.bindsN F fun _ _ _ _ _ _ us hl => match us, hl with | [_, _, _], _ => rfl, rfl, He.glo_ok X G (c.fact 30 (f := .glo "_law_a_house") rfl)⟩
  d__law_starts := by
    obtain ⟨fd, F⟩ := c.def_ 31 (d := dd "_law_starts" (topS 53)) rfl
    exact ⟨"_law_starts", _, fd, funD_fun F, FunD.bindsN F fun _ _ _ _ _ _ us hl => match us, hl with | [_], _ => rfl, rfl, He.glo_ok X G (c.fact 31 (f := .glo "_law_starts") rfl)⟩
  d__law_there := by
    obtain ⟨fd, F⟩ := c.def_ 32 (d := dd "_law_there" (topS 54)) rfl
    exact ⟨"_law_there", _, fd, funD_fun F, FunD.bindsN F fun _ _ _ _ _ _ us hl => match us, hl with | [_, _, _], _ => rfl, rfl, He.glo_ok X G (c.fact 32 (f := .glo "_law_there") rfl)⟩
  d__law_a_walk := by
    obtain ⟨fd, F⟩ := c.def_ 33 (d := dd "_law_a_walk" (topS 55)) rfl
    exact ⟨"_law_a_walk", _, fd, funD_fun F, FunD.bindsN F fun _ _ _ _ _ _ us hl => match us, hl with | [_, _, _], _ => rfl, rfl, He.glo_ok X G (c.fact 33 (f := .glo "_law_a_walk") rfl)⟩
  d__law_caught := by
    obtain ⟨fd, F⟩ := c.def_ 34 (d := dd "_law_caught" (topS 56)) rfl
    exact ⟨"_law_caught", _, fd, funD_fun F, FunD.bindsN F fun _ _ _ _ _ _ us hl => match us, hl with | [_, _, _], _ => rfl, rfl, He.glo_ok X G (c.fact 34 (f := .glo "_law_caught") rfl)⟩
  d__law_free := by
    obtain ⟨fd, F⟩ := c.def_ 35 (d := dd "_law_free" (topS 57)) rfl
    exact ⟨"_law_free", _, fd, funD_fun F, FunD.bindsN F fun _ _ _ _ _ _ us hl => match us, hl with | [_, _], _ => rfl, rfl, He.glo_ok X G (c.fact 35 (f := .glo "_law_free") rfl)⟩
  d__law_shortest := by
    obtain ⟨fd, F⟩ := c.def_ 36 (d := dd "_law_shortest" (topS 58)) rfl
    exact ⟨"_law_shortest", _, fd, funD_fun F, FunD.bindsN F fun _ _ _ _ _ _ us hl => match us, hl with | [_, _, _, _], _ => rfl, rfl, He.glo_ok X G (c.fact 36 (f := .glo "_law_shortest") rfl)⟩
  d__law_written := by
    obtain ⟨fd, F⟩ := c.def_ 37 (d := dd "_law_written" (topS 59)) rfl
    exact ⟨"_law_written", _, fd, funD_fun F, FunD.bindsN F fun _ _ _ _ _ _ us hl => match us, hl with | [], _ => rfl, rfl, He.glo_ok X G (c.fact 37 (f := .glo "_law_written") rfl)⟩
  d_law := by
    obtain ⟨fd, F⟩ := c.def_ 38 (d := dd "law" (topS 60)) rfl
    obtain ⟨oc', od', fd', osl', e1, e2⟩ := l0
    have b : L2.Binds K fd ["script"] [] := FunD.bindsN F fun _ _ _ _ _ _ us hl => match us, hl with | [_], _ => rfl
    have F' : FunD K "law" "law" (defArgs (topS 60)) (defBody (topS 60)) (defScope (topS 60)) [] [] (He.ga K "law") fd := F
    have Fn := funD_fun F'
    obtain ⟨oc, od, kV, doc, pm, an, cdv, ct, osl, rfl, lk, hcd⟩ := Fn.ex
    have z := e1.symm.trans lk
    cases z
    exact ⟨"law", _, _, _, kV, doc, pm, an, cdv, ct, _, lk, hcd, Fn.kp, b, rfl, He.glo_ok X G (c.fact 38 (f := .glo "law") rfl), c0, P0, e2, t0, by first | exact List.mem_cons_self .. | (simp [tbQ]; done), fun p hp e => by
      simp only [tbQ, List.mem_cons, List.not_mem_nil, or_false] at hp
      subst hp
      rfl⟩
  n_all := He.free_ok X G (c.fact 39 (f := .free "all") rfl)
  n_any := He.free_ok X G (c.fact 40 (f := .free "any") rfl)
  n_bool := He.free_ok X G (c.fact 41 (f := .free "bool") rfl)
  n_enumerate := He.free_ok X G (c.fact 42 (f := .free "enumerate") rfl)
  n_int := He.free_ok X G (c.fact 43 (f := .free "int") rfl)
  n_isinstance := He.free_ok X G (c.fact 44 (f := .free "isinstance") rfl)
  n_len := He.free_ok X G (c.fact 45 (f := .free "len") rfl)
  n_list := He.free_ok X G (c.fact 46 (f := .free "list") rfl)
  n_max := He.free_ok X G (c.fact 47 (f := .free "max") rfl)
  n_min := He.free_ok X G (c.fact 48 (f := .free "min") rfl)
  n_range := He.free_ok X G (c.fact 49 (f := .free "range") rfl)
  n_sorted := He.free_ok X G (c.fact 50 (f := .free "sorted") rfl)
  n_str := He.free_ok X G (c.fact 51 (f := .free "str") rfl)
  n_tuple := He.free_ok X G (c.fact 52 (f := .free "tuple") rfl)
  n_zip := He.free_ok X G (c.fact 53 (f := .free "zip") rfl)
  x_InvalidHouse := by
    obtain ⟨h1, h2, h3, h4⟩ := He.exc_ok (c.fact 71 (f := .exc "InvalidHouse") rfl)
    exact ⟨He.ga K "InvalidHouse", He.veBase, _, _, _, rfl, PySem.F.excBase_ValueError, h1, He.glo_ok X G (c.fact 54 (f := .glo "InvalidHouse") rfl), h2, h3, h4⟩
  x_InvalidRoom := by
    obtain ⟨h1, h2, h3, h4⟩ := He.exc_ok (c.fact 72 (f := .exc "InvalidRoom") rfl)
    exact ⟨He.ga K "InvalidRoom", He.veBase, _, _, _, rfl, PySem.F.excBase_ValueError, h1, He.glo_ok X G (c.fact 57 (f := .glo "InvalidRoom") rfl), h2, h3, h4⟩
  x_InvalidWalk := by
    obtain ⟨h1, h2, h3, h4⟩ := He.exc_ok (c.fact 73 (f := .exc "InvalidWalk") rfl)
    exact ⟨He.ga K "InvalidWalk", He.veBase, _, _, _, rfl, PySem.F.excBase_ValueError, h1, He.glo_ok X G (c.fact 58 (f := .glo "InvalidWalk") rfl), h2, h3, h4⟩
  x_InvalidNumber := by
    obtain ⟨h1, h2, h3, h4⟩ := He.exc_ok (c.fact 74 (f := .exc "InvalidNumber") rfl)
    exact ⟨He.ga K "InvalidNumber", He.veBase, _, _, _, rfl, PySem.F.excBase_ValueError, h1, He.glo_ok X G (c.fact 63 (f := .glo "InvalidNumber") rfl), h2, h3, h4⟩
  tryx := by
    refine ⟨He.ga K "InvalidText", He.ga K "TooMany", He.ga K "PatrolError", He.glo_ok X G (c.fact 70 (f := .glo "InvalidText") rfl), He.glo_ok X G (c.fact 69 (f := .glo "TooMany") rfl), He.glo_ok X G (c.fact 75 (f := .glo "PatrolError") rfl), fun k D hk hD => ?_⟩
    have all : ∀ k, k < 15 → k = 0 ∨ k = 1 ∨ k = 2 ∨ k = 3 ∨ k = 4 ∨ k = 5 ∨ k = 6 ∨ k = 7 ∨ k = 8 ∨ k = 9 ∨ k = 10 ∨ k = 11 ∨ k = 12 ∨ k = 13 ∨ k = 14 := by omega
    have kc : ∀ (x : Str), kinN[k]? = some x → KinC (tbQ P w K [(P0, (envOfC "law" (defScope (topS 60)) 0 0 .none).qual ++ "<lambda>")]) mg kinN (He.ga K x) (btK k) := fun x hx => kinCB_ok (T := tbQ P w K [(P0, (envOfC "law" (defScope (topS 60)) 0 0 .none).qual ++ "<lambda>")]) X G (xkB_ok cx hk hx)
    rcases all k hk with z | z | z | z | z | z | z | z | z | z | z | z | z | z | z <;> subst z
    · cases hD
      exact ⟨He.exm_ok (c.fact 76 (f := .exm "InvalidHouse" "InvalidText" false) rfl), He.exm_ok (c.fact 77 (f := .exm "InvalidHouse" "TooMany" false) rfl), He.exm_ok (c.fact 78 (f := .exm "InvalidHouse" "PatrolError" true) rfl), kc "InvalidHouse" rfl⟩
    · cases hD
      exact ⟨He.exm_ok (c.fact 79 (f := .exm "InvalidBeginning" "InvalidText" false) rfl), He.exm_ok (c.fact 80 (f := .exm "InvalidBeginning" "TooMany" false) rfl), He.exm_ok (c.fact 81 (f := .exm "InvalidBeginning" "PatrolError" true) rfl), kc "InvalidBeginning" rfl⟩
    · cases hD
      exact ⟨He.exm_ok (c.fact 82 (f := .exm "InvalidTick" "InvalidText" false) rfl), He.exm_ok (c.fact 83 (f := .exm "InvalidTick" "TooMany" false) rfl), He.exm_ok (c.fact 84 (f := .exm "InvalidTick" "PatrolError" true) rfl), kc "InvalidTick" rfl⟩
    · cases hD
      exact ⟨He.exm_ok (c.fact 85 (f := .exm "InvalidRoom" "InvalidText" false) rfl), He.exm_ok (c.fact 86 (f := .exm "InvalidRoom" "TooMany" false) rfl), He.exm_ok (c.fact 87 (f := .exm "InvalidRoom" "PatrolError" true) rfl), kc "InvalidRoom" rfl⟩
    · cases hD
      exact ⟨He.exm_ok (c.fact 88 (f := .exm "InvalidWalk" "InvalidText" false) rfl), He.exm_ok (c.fact 89 (f := .exm "InvalidWalk" "TooMany" false) rfl), He.exm_ok (c.fact 90 (f := .exm "InvalidWalk" "PatrolError" true) rfl), kc "InvalidWalk" rfl⟩
    · cases hD
      exact ⟨He.exm_ok (c.fact 91 (f := .exm "InvalidSights" "InvalidText" false) rfl), He.exm_ok (c.fact 92 (f := .exm "InvalidSights" "TooMany" false) rfl), He.exm_ok (c.fact 93 (f := .exm "InvalidSights" "PatrolError" true) rfl), kc "InvalidSights" rfl⟩
    · cases hD
      exact ⟨He.exm_ok (c.fact 94 (f := .exm "InvalidStand" "InvalidText" false) rfl), He.exm_ok (c.fact 95 (f := .exm "InvalidStand" "TooMany" false) rfl), He.exm_ok (c.fact 96 (f := .exm "InvalidStand" "PatrolError" true) rfl), kc "InvalidStand" rfl⟩
    · cases hD
      exact ⟨He.exm_ok (c.fact 97 (f := .exm "InvalidLot" "InvalidText" false) rfl), He.exm_ok (c.fact 98 (f := .exm "InvalidLot" "TooMany" false) rfl), He.exm_ok (c.fact 99 (f := .exm "InvalidLot" "PatrolError" true) rfl), kc "InvalidLot" rfl⟩
    · cases hD
      exact ⟨He.exm_ok (c.fact 100 (f := .exm "InvalidChange" "InvalidText" false) rfl), He.exm_ok (c.fact 101 (f := .exm "InvalidChange" "TooMany" false) rfl), He.exm_ok (c.fact 102 (f := .exm "InvalidChange" "PatrolError" true) rfl), kc "InvalidChange" rfl⟩
    · cases hD
      exact ⟨He.exm_ok (c.fact 103 (f := .exm "InvalidNumber" "InvalidText" false) rfl), He.exm_ok (c.fact 104 (f := .exm "InvalidNumber" "TooMany" false) rfl), He.exm_ok (c.fact 105 (f := .exm "InvalidNumber" "PatrolError" true) rfl), kc "InvalidNumber" rfl⟩
    · cases hD
      exact ⟨He.exm_ok (c.fact 106 (f := .exm "InvalidIndex" "InvalidText" false) rfl), He.exm_ok (c.fact 107 (f := .exm "InvalidIndex" "TooMany" false) rfl), He.exm_ok (c.fact 108 (f := .exm "InvalidIndex" "PatrolError" true) rfl), kc "InvalidIndex" rfl⟩
    · cases hD
      exact ⟨He.exm_ok (c.fact 109 (f := .exm "BadStep" "InvalidText" false) rfl), He.exm_ok (c.fact 110 (f := .exm "BadStep" "TooMany" false) rfl), He.exm_ok (c.fact 111 (f := .exm "BadStep" "PatrolError" true) rfl), kc "BadStep" rfl⟩
    · cases hD
      exact ⟨He.exm_ok (c.fact 112 (f := .exm "NoBeginning" "InvalidText" false) rfl), He.exm_ok (c.fact 113 (f := .exm "NoBeginning" "TooMany" false) rfl), He.exm_ok (c.fact 114 (f := .exm "NoBeginning" "PatrolError" true) rfl), kc "NoBeginning" rfl⟩
    · cases hD
      exact ⟨He.exm_ok (c.fact 115 (f := .exm "Unlike" "InvalidText" false) rfl), He.exm_ok (c.fact 116 (f := .exm "Unlike" "TooMany" false) rfl), He.exm_ok (c.fact 117 (f := .exm "Unlike" "PatrolError" true) rfl), kc "Unlike" rfl⟩
    · cases hD
      exact ⟨He.exm_ok (c.fact 118 (f := .exm "NothingToUndo" "InvalidText" false) rfl), He.exm_ok (c.fact 119 (f := .exm "NothingToUndo" "TooMany" false) rfl), He.exm_ok (c.fact 120 (f := .exm "NothingToUndo" "PatrolError" true) rfl), kc "NothingToUndo" rfl⟩
abbrev R : PySem.W.OpenRow := PySem.W.OpenLaw.row PySem.Challenge.rw_patrolsuntold_k03_whole_walks_without_lo
def lamNames : List PySem.Str := ["law"]
abbrev hkL : PySem.W.Hook := hookQ fal fnl (xkB kinN btK) lamNames
def obL (s : PySem.W.SharedT) : He.AlD := obsQ fal fnl (xkB kinN btK) lamNames (HandSHeadRun.getT s)
theorem obL_eq (s : PySem.W.SharedT) : obL s = hkL.obs s.abs := obsQ_eq (HandSHeadRun.getT_eq s)
theorem runL (w : World) : HandSHeadRun.RunEq R (PySem.W.view R.prog [60]) hkL obL 20000 topNames w := by
  intro os
  kernel_rfl
end Q
open PySem PySem.W PySem.Calls PyProof.Rows
theorem PySem.Challenge.cw_patrolsuntold_k03_whole_walks_without_lo_holds : PySem.Challenge.rw_patrolsuntold_k03_whole_walks_without_lo.Holds := by
  w_on; o_law
  refine HandSHeadRun.head_any (r := OpenLaw.row PySem.Challenge.rw_patrolsuntold_k03_whole_walks_without_lo) (q := view (OpenLaw.row PySem.Challenge.rw_patrolsuntold_k03_whole_walks_without_lo).prog [60]) (H := Q.hkL) (ob := Q.obL) (M := 20000) (loose := Q.topNames) (d := HandSHeadRun.topDef (OpenLaw.row PySem.Challenge.rw_patrolsuntold_k03_whole_walks_without_lo).prog 60) (kwd := []) Q.obL_eq
    (by kernel_rfl) (fun s => by kernel_rfl) Q.runL (by kernel_rfl) (by kernel_rfl) (by kernel_rfl) (by rfl) (by first | assumption | decide +kernel) (by decide +kernel) ⟨rfl, rfl, rfl, rfl, rfl, by decide +kernel⟩ ?hw ?hc
  case hw => w_witness2
  case hc =>
    refine Q.walk_ofQ (l := PySem.Challenge.rw_patrolsuntold_k03_whole_walks_without_lo) (n := 63) (k := 11) (x := "script") (g := Q.g_law) rfl (by decide) (by kernel_rfl) ⟨rfl, by decide, by decide⟩ ?F Q.law_true
    intro w mg h Y G
    obtain ⟨K, c⟩ := Y
    have dn : (HandSHeadRun.topDef (OpenLaw.row PySem.Challenge.rw_patrolsuntold_k03_whole_walks_without_lo).prog 60).name = ("law" : PySem.Str) := by kernel_rfl
    rw [dn]
    obtain ⟨oc0, od0, fd0, osl0, c0, P0, e0, k0, hd0, em0, n0⟩ := (c.tab "law" (by decide +kernel)).ex
    obtain ⟨fdl, Fl⟩ := c.says.def_ 38 (d := Q.dd "law" (Q.topS 60)) rfl
    have bl := L2.FunD.bindsA (ps := ["script"]) Fl fun _ _ _ _ _ _ us hl => match us, hl with | [_], _ => rfl
    have Fl' : L2.FunD K "law" "law" (L2.defArgs (Q.topS 60)) (L2.defBody (Q.topS 60)) (L2.defScope (Q.topS 60)) [] [] (He.ga K "law") fdl := Fl
    have Fn := Q.funD_fun Fl'
    obtain ⟨oc, od, kV, doc, pm, an, cdv, ct, osl, efd, lk, hcd⟩ := Fn.ex
    refine ⟨Q.tbQ (PySem.Challenge.rw_patrolsuntold_k03_whole_walks_without_lo).prog w K [(P0, (PyProof.Rows.envOfC "law" (L2.defScope (Q.topS 60)) 0 0 .none).qual ++ "<lambda>")], 38, [(c0, P0)], rfl, rfl, c.kin, c.nol, fun p hp => by
      simp only [List.mem_cons, List.not_mem_nil, or_false] at hp
      subst hp; exact em0, fun p hp => by
      simp only [List.mem_cons, List.not_mem_nil, or_false] at hp
      subst hp; exact n0, fun p hp => by
      simp only [List.mem_cons, List.not_mem_nil, or_false] at hp
      subst hp; exact hd0, fun p hp => by
      replace hp : p ∈ [(P0, (PyProof.Rows.envOfC "law" (L2.defScope (Q.topS 60)) 0 0 .none).qual ++ "<lambda>")] := hp
      simp only [List.mem_cons, List.not_mem_nil, or_false] at hp
      subst hp; exact ⟨c0, by simp⟩,
      ⟨_, oc, od, osl, fdl, He.glo_ok c.kin G (c.says.fact 38 (f := .glo "law") rfl), lk, fun s u => bl s [u] rfl⟩, fun base h1 h2 h3 => ?_⟩
    exact Q.w_law (Q.gs_of (P := (PySem.Challenge.rw_patrolsuntold_k03_whole_walks_without_lo).prog) (w := w) (base := base) c.kin G c.says c.xk ⟨oc0, od0, fd0, osl0, e0, k0⟩ (h3 (c0, P0) (by simp)))
