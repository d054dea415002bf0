import PyProof.Rows.All
import Wide.All
import OpenK.AllK
import Wide.FinOn
import KE.KStateDown
import Lean
import HandS.ForMost
import HandS.Defaults
import HandS.TupAny
import HandS.IsInst
import HandS.Zip
import HandS.RaiseMore
import HandS.Deep
import HandS.Style
import HandS.Steps
import HandS.TupLe
import HandS.Wide
import HandS.HeadHook2
import KE.GoesEnum
import KE.GoesZip
import HandS.Strs
import PyProof.StrWalks
import HandS.Conv
import HandS.SortRule
import HandS.HeadEnd
import HandS.NamedTupSort
import HandS.Base
import HandS.Call
import HandS.Ends
import HandS.More
import HandS.Words
import HandS.WordsExc
import HandS.Head0
import HandS.Head1
import HandS.Head2
import HandS.HeadHook1
import HandS.HeadHook3
import HandS.HeadHook4
import PySem.Challenge.RW_draftward_k79_whole_texts_there_and_back
set_option Elab.async false

section
set_option Elab.async false
set_option linter.all false
set_option maxRecDepth 100000
set_option maxHeartbeats 4000000
/-! J0: data without a heap, how data lies in the abstract heap, mirrors of expressions. Own work. -/
namespace J
open PySem PySem.Spec PyProof.Rows L2

/-- data: what a value is, all objects but the shared ones by value -/
inductive D where
  | non | bl (b : Bool) | int (i : Int) | str (x : Str) | tup (xs : List D) | lst (xs : List D) | ob (n : Nat)
  /-- a list, a tuple that stands outside what is tracked -/
  | cl (xs : List D) | ct (xs : List D)

/-- shared things that change -/
inductive Cell where
  | lst (xs : List D) | dK (kvs : List (Key × D)) | dT (kvs : List (List Key × D))
abbrev Sto := List Cell

/-- F: the lists that nothing changes any more; m: where the shared things lie -/
structure Gh where
  F : Addr → Prop
  m : List Addr
def Gh.fp (G : Gh) (a : Addr) : Prop := a ∈ G.m
/-- an outside list -/
def SqC (K : PySem.W.Frag) (H : Hp) (a : Addr) (xs : List V) : Prop :=
  (∃ o, H a = some (.frz o (.lst xs))) ∨
    ∃ (o : Obj) (its : Array Value) (n : Nat), K.lookup a = some o ∧ o.cls = .type "list" ∧ o.dict = none ∧ o.data = .seq its n ∧ its.size ≤ sizeLine ∧ Vals xs its.toList
theorem SqC.sq {K : PySem.W.Frag} {H : Hp} {a : Addr} {xs : List V} (h : SqC K H a xs) : SqL K H a xs := h.elim (fun z => .inl (.inr z)) .inr

mutual
inductive Rp (K : PySem.W.Frag) (G : Gh) (H : Hp) : V → D → Prop
  | non : Rp K G H .non .non
  | bl (b : Bool) : Rp K G H (.bl b) (.bl b)
  | int (i : Int) : Rp K G H (.int i) (.int i)
  | str (x : Str) : Rp K G H (.str x) (.str x)
  | tup {a : Addr} {xs : List V} {ds : List D} : H a = some (.tup xs) → xs.length ≤ sizeLine → RpA K G H xs ds → Rp K G H (.ref a) (.tup ds)
  | lst {a : Addr} {xs : List V} {ds : List D} : G.F a → H a = some (.lst xs) → xs.length ≤ sizeLine → RpA K G H xs ds → Rp K G H (.ref a) (.lst ds)
  | ob {n : Nat} {p : Addr} : G.m[n]? = some p → Rp K G H (.ref p) (.ob n)
  | cl {a : Addr} {xs : List V} {ds : List D} : SqC K H a xs → xs.length ≤ sizeLine → RpA K G H xs ds → Rp K G H (.ref a) (.cl ds)
  | ct {a : Addr} {xs : List V} {ds : List D} : SqT K H a xs → xs.length ≤ sizeLine → RpA K G H xs ds → Rp K G H (.ref a) (.ct ds)
inductive RpA (K : PySem.W.Frag) (G : Gh) (H : Hp) : List V → List D → Prop
  | nil : RpA K G H [] []
  | cons {v : V} {vs : List V} {d : D} {ds : List D} : Rp K G H v d → RpA K G H vs ds → RpA K G H (v :: vs) (d :: ds)
end

/-- what data leans on stays -/
structure Pers (K : PySem.W.Frag) (G : Gh) (H : Hp) (G' : Gh) (H' : Hp) : Prop where
  t : ∀ a xs, SqT K H a xs → SqT K H' a xs
  u : ∀ a xs, H a = some (.tup xs) → H' a = some (.tup xs)
  c : ∀ a xs, SqC K H a xs → SqC K H' a xs
  l : ∀ a xs, G.F a → H a = some (.lst xs) → G'.F a ∧ H' a = some (.lst xs)
  m : ∀ (n : Nat) (p : Addr), G.m[n]? = some p → G'.m[n]? = some p
section
variable {K : PySem.W.Frag} {G G' G2 : Gh} {H H' H2 : Hp}
theorem Pers.refl : Pers K G H G H := ⟨fun _ _ h => h, fun _ _ h => h, fun _ _ h => h, fun _ _ h e => ⟨h, e⟩, fun _ _ h => h⟩
theorem Pers.trans (a : Pers K G H G' H') (b : Pers K G' H' G2 H2) : Pers K G H G2 H2 :=
  ⟨fun c xs h => b.t c xs (a.t c xs h), fun c xs h => b.u c xs (a.u c xs h), fun c xs h => b.c c xs (a.c c xs h), fun c xs h e => let ⟨h1, e1⟩ := a.l c xs h e; b.l c xs h1 e1, fun n p h => b.m n p (a.m n p h)⟩
mutual
theorem Rp.pers (p : Pers K G H G' H') : ∀ {v : V} {d : D}, Rp K G H v d → Rp K G' H' v d
  | _, _, .non => .non
  | _, _, .bl b => .bl b
  | _, _, .int i => .int i
  | _, _, .str x => .str x
  | _, _, .tup h z r => .tup (p.u _ _ h) z (RpA.pers p r)
  | _, _, .cl h z r => .cl (p.c _ _ h) z (RpA.pers p r)
  | _, _, .ct h z r => .ct (p.t _ _ h) z (RpA.pers p r)
  | _, _, .lst f h z r => let ⟨f', h'⟩ := p.l _ _ f h; .lst f' h' z (RpA.pers p r)
  | _, _, .ob h => .ob (p.m _ _ h)
theorem RpA.pers (p : Pers K G H G' H') : ∀ {vs : List V} {ds : List D}, RpA K G H vs ds → RpA K G' H' vs ds
  | _, _, .nil => .nil
  | _, _, .cons r rs => .cons (Rp.pers p r) (RpA.pers p rs)
end
theorem RpA.length : ∀ {vs : List V} {ds : List D}, RpA K G H vs ds → vs.length = ds.length
  | _, _, .nil => rfl
  | _, _, .cons _ r => by rw [List.length_cons, List.length_cons, RpA.length r]
theorem RpA.get : ∀ {vs : List V} {ds : List D} {i : Nat} {d : D}, RpA K G H vs ds → ds[i]? = some d → ∃ v, vs[i]? = some v ∧ Rp K G H v d
  | _, _, _, _, .nil, e => by simp at e
  | _, _, 0, _, .cons r _, e => by simp at e; subst e; exact ⟨_, rfl, r⟩
  | _, _, i + 1, d, .cons _ t, e => by
    obtain ⟨v, h1, h2⟩ := RpA.get (i := i) (d := d) t (by simpa using e)
    exact ⟨v, by simpa using h1, h2⟩
theorem RpA.getV : ∀ {vs : List V} {ds : List D} {i : Nat} {v : V}, RpA K G H vs ds → vs[i]? = some v → ∃ d, ds[i]? = some d ∧ Rp K G H v d
  | _, _, _, _, .nil, e => by simp at e
  | _, _, 0, _, .cons r _, e => by simp at e; subst e; exact ⟨_, rfl, r⟩
  | _, _, i + 1, v, .cons _ t, e => by
    obtain ⟨d, h1, h2⟩ := RpA.getV (i := i) (v := v) t (by simpa using e)
    exact ⟨d, by simpa using h1, h2⟩
theorem RpA.append : ∀ {vs ws : List V} {ds es : List D}, RpA K G H vs ds → RpA K G H ws es → RpA K G H (vs ++ ws) (ds ++ es)
  | _, _, _, _, .nil, s => s
  | _, _, _, _, .cons r t, s => .cons r (RpA.append t s)
theorem RpA.drop : ∀ {vs : List V} {ds : List D} (n : Nat), RpA K G H vs ds → RpA K G H (vs.drop n) (ds.drop n)
  | _, _, 0, r => r
  | _, _, _ + 1, .nil => .nil
  | _, _, n + 1, .cons _ t => RpA.drop n t
theorem RpA.take : ∀ {vs : List V} {ds : List D} (n : Nat), RpA K G H vs ds → RpA K G H (vs.take n) (ds.take n)
  | _, _, 0, _ => .nil
  | _, _, _ + 1, .nil => .nil
  | _, _, n + 1, .cons r t => .cons r (RpA.take n t)
theorem RpA.set {v : V} {d : D} (r : Rp K G H v d) : ∀ {vs : List V} {ds : List D} (i : Nat), RpA K G H vs ds → RpA K G H (vs.set i v) (ds.set i d)
  | _, _, _, .nil => .nil
  | _, _, 0, .cons _ t => .cons r t
  | _, _, i + 1, .cons q t => .cons q (RpA.set r i t)
theorem RpA.reverse : ∀ {vs : List V} {ds : List D}, RpA K G H vs ds → RpA K G H vs.reverse ds.reverse
  | _, _, .nil => .nil
  | _, _, .cons r t => by
    rw [List.reverse_cons, List.reverse_cons]
    exact RpA.append (RpA.reverse t) (.cons r .nil)
theorem RpA.rep {v : V} {d : D} (r : Rp K G H v d) : ∀ n : Nat, RpA K G H (List.replicate n v) (List.replicate n d)
  | 0 => .nil
  | n + 1 => .cons r (RpA.rep r n)
/-- inversions -/
theorem Rp.int_ {v : V} {i : Int} (h : Rp K G H v (.int i)) : v = .int i := by cases h; rfl
theorem Rp.bl_ {v : V} {b : Bool} (h : Rp K G H v (.bl b)) : v = .bl b := by cases h; rfl
theorem Rp.str_ {v : V} {x : Str} (h : Rp K G H v (.str x)) : v = .str x := by cases h; rfl
theorem Rp.non_ {v : V} (h : Rp K G H v .non) : v = .non := by cases h; rfl
theorem Rp.tup_ {v : V} {ds : List D} (h : Rp K G H v (.tup ds)) : ∃ a xs, v = .ref a ∧ SqT K H a xs ∧ xs.length ≤ sizeLine ∧ RpA K G H xs ds := by
  cases h with
  | tup h1 h2 h3 => exact ⟨_, _, rfl, .inl (.inl h1), h2, h3⟩
theorem Rp.tupH_ {v : V} {ds : List D} (h : Rp K G H v (.tup ds)) : ∃ a xs, v = .ref a ∧ H a = some (.tup xs) ∧ xs.length ≤ sizeLine ∧ RpA K G H xs ds := by
  cases h with
  | tup h1 h2 h3 => exact ⟨_, _, rfl, h1, h2, h3⟩
theorem Rp.cl_ {v : V} {ds : List D} (h : Rp K G H v (.cl ds)) : ∃ a xs, v = .ref a ∧ SqC K H a xs ∧ xs.length ≤ sizeLine ∧ RpA K G H xs ds := by
  cases h with
  | cl h1 h2 h3 => exact ⟨_, _, rfl, h1, h2, h3⟩
theorem Rp.ct_ {v : V} {ds : List D} (h : Rp K G H v (.ct ds)) : ∃ a xs, v = .ref a ∧ SqT K H a xs ∧ xs.length ≤ sizeLine ∧ RpA K G H xs ds := by
  cases h with
  | ct h1 h2 h3 => exact ⟨_, _, rfl, h1, h2, h3⟩
theorem Rp.lst_ {v : V} {ds : List D} (h : Rp K G H v (.lst ds)) : ∃ a xs, v = .ref a ∧ G.F a ∧ H a = some (.lst xs) ∧ xs.length ≤ sizeLine ∧ RpA K G H xs ds := by
  cases h with
  | lst h0 h1 h2 h3 => exact ⟨_, _, rfl, h0, h1, h2, h3⟩
theorem Rp.ob_ {v : V} {n : Nat} (h : Rp K G H v (.ob n)) : ∃ p, v = .ref p ∧ G.m[n]? = some p := by
  cases h with
  | ob h1 => exact ⟨_, rfl, h1⟩
theorem RpA.ints : ∀ {vs : List V} {ns : List Int}, RpA K G H vs (ns.map D.int) → vs = ns.map V.int
  | _, [], .nil => rfl
  | _, n :: ns, .cons r t => by rw [r.int_, RpA.ints t]; rfl
theorem RpA.strs : ∀ {vs : List V} {ns : List Str}, RpA K G H vs (ns.map D.str) → vs = ns.map V.str
  | _, [], .nil => rfl
  | _, n :: ns, .cons r t => by rw [r.str_, RpA.strs t]; rfl
theorem RpA.bls : ∀ {vs : List V} {ns : List Bool}, RpA K G H vs (ns.map D.bl) → vs = ns.map V.bl
  | _, [], .nil => rfl
  | _, n :: ns, .cons r t => by rw [r.bl_, RpA.bls t]; rfl
theorem RpA.ofStrs : ∀ (ns : List Str), RpA K G H (ns.map V.str) (ns.map D.str)
  | [] => .nil
  | n :: ns => .cons (.str n) (RpA.ofStrs ns)
theorem RpA.ofInts : ∀ (ns : List Int), RpA K G H (ns.map V.int) (ns.map D.int)
  | [] => .nil
  | n :: ns => .cons (.int n) (RpA.ofInts ns)
end

/-! data that leans on no list but the shared ones -/
mutual
def pureD : D → Bool
  | .lst _ => false
  | .tup xs => pureA xs
  | .cl xs => pureA xs
  | .ct xs => pureA xs
  | _ => true
def pureA : List D → Bool
  | [] => true
  | d :: ds => pureD d && pureA ds
end
abbrev Gz (m : List Addr) : Gh := ⟨fun _ => False, m⟩
section
variable {K : PySem.W.Frag} {G G' : Gh} {H H' : Hp}
mutual
theorem Rp.pure : ∀ {v : V} {d : D}, Rp K G H v d → pureD d = true → Rp K (Gz G.m) H v d
  | _, _, .non, _ => .non
  | _, _, .bl b, _ => .bl b
  | _, _, .int i, _ => .int i
  | _, _, .str x, _ => .str x
  | _, _, .tup h z r, p => .tup h z (RpA.pure r (by simpa only [pureD] using p))
  | _, _, .cl h z r, p => .cl h z (RpA.pure r (by simpa only [pureD] using p))
  | _, _, .ct h z r, p => .ct h z (RpA.pure r (by simpa only [pureD] using p))
  | _, _, .lst f h z r, p => by simp [pureD] at p
  | _, _, .ob h, _ => .ob h
theorem RpA.pure : ∀ {vs : List V} {ds : List D}, RpA K G H vs ds → pureA ds = true → RpA K (Gz G.m) H vs ds
  | _, _, .nil, _ => .nil
  | _, _, .cons r rs, p => by
    simp only [pureA, Bool.and_eq_true] at p
    exact .cons (Rp.pure r p.1) (RpA.pure rs p.2)
end
theorem Pers.ofGz : Pers K (Gz G.m) H G H := ⟨fun _ _ h => h, fun _ _ h => h, fun _ _ h => h, fun _ _ f => f.elim, fun _ _ h => h⟩
theorem Pers.gz (p : Pers K G H G' H') : Pers K (Gz G.m) H (Gz G'.m) H' := ⟨p.t, p.u, p.c, fun _ _ f => f.elim, p.m⟩
end

/-- where a shared thing lies -/
def CellOk (K : PySem.W.Frag) (m : List Addr) (H : Hp) (a : Addr) : Cell → Prop
  | .lst xs => ∃ vs, H a = some (.lst vs) ∧ vs.length ≤ sizeLine ∧ RpA K (Gz m) H vs xs
  | .dK kvs => ∃ vs, H a = some (.dK vs) ∧ vs.map (·.1) = kvs.map (·.1) ∧ RpA K (Gz m) H (vs.map (·.2)) (kvs.map (·.2))
  | .dT kvs => ∃ vs, H a = some (.dT vs) ∧ vs.map (·.1) = kvs.map (·.1) ∧ RpA K (Gz m) H (vs.map (·.2)) (kvs.map (·.2))

structure Good (K : PySem.W.Frag) (G : Gh) (S : Sto) (H : Hp) : Prop where
  F0 : ∀ a, G.F a → H a ≠ none ∧ ¬ G.fp a
  len : G.m.length = S.length
  cell : ∀ (n : Nat) (p : Addr) (c : Cell), G.m[n]? = some p → S[n]? = some c → CellOk K G.m H p c
  mt : ∀ a, G.fp a → Mut (H a)
  nd : G.m.Nodup

/-- how a piece of code that changes nothing but the shared things leaves the heap -/
structure Ext (G : Gh) (H : Hp) (G' : Gh) (H' : Hp) : Prop where
  F : ∀ a, G.F a → G'.F a
  Fn : ∀ a, G'.F a → G.F a ∨ H a = none
  m : ∃ l, G'.m = G.m ++ l
  fn : ∀ a, G'.fp a → G.fp a ∨ H a = none
  keep : ∀ a o, H a = some o → ¬ G.fp a → H' a = some o
  there : ∀ a, H a ≠ none → H' a ≠ none

section
variable {K : PySem.W.Frag} {G G' G2 : Gh} {S S' : Sto} {H H' H2 : Hp}
theorem Ext.refl : Ext G H G H := ⟨fun _ h => h, fun _ h => .inl h, ⟨[], by simp⟩, fun _ h => .inl h, fun _ _ h _ => h, fun _ h => h⟩
theorem Ext.trans (a : Ext G H G' H') (b : Ext G' H' G2 H2) : Ext G H G2 H2 where
  F := fun c h => b.F c (a.F c h)
  Fn := fun c h => by
    rcases b.Fn c h with h | h
    · exact a.Fn c h
    · refine .inr ?_
      cases e : H c with
      | none => rfl
      | some o => exact absurd h (a.there c (by rw [e]; exact fun z => by cases z))
  m := by
    obtain ⟨l1, e1⟩ := a.m
    obtain ⟨l2, e2⟩ := b.m
    exact ⟨l1 ++ l2, by rw [e2, e1, List.append_assoc]⟩
  fn := fun c h => by
    rcases b.fn c h with h | h
    · exact a.fn c h
    · refine .inr ?_
      cases e : H c with
      | none => rfl
      | some o => exact absurd h (a.there c (by rw [e]; exact fun z => by cases z))
  keep := fun c o h n => b.keep c o (a.keep c o h n) fun z => by
    rcases a.fn c z with z | z
    · exact n z
    · rw [h] at z; cases z
  there := fun c h => b.there c (a.there c h)
theorem mut_tup {H : Hp} {a : Addr} {xs : List V} (m : Mut (H a)) (h : Rd H a (.tup xs)) : False := by
  rcases h with h | ⟨o, h⟩
  · rw [h] at m; exact m
  · rw [h] at m; exact m
theorem Ext.pers (a : Ext G H G' H') (g : Good K G S H) : Pers K G H G' H' := by
  have fz : ∀ c o u, H c = some (.frz o u) → H' c = some (.frz o u) := fun c o u h => a.keep c _ h fun z => by
    have := g.mt c z
    rw [h] at this
    exact this
  have tp : ∀ c xs, H c = some (.tup xs) → H' c = some (.tup xs) := fun c xs h => a.keep c _ h fun z => by
    have := g.mt c z
    rw [h] at this
    exact this
  refine ⟨fun c xs h => ?_, tp, fun c xs h => ?_, fun c xs f h => ⟨a.F c f, a.keep c _ h (g.F0 c f).2⟩, fun n p h => ?_⟩
  · rcases h with (h | ⟨o, h⟩) | h
    · exact .inl (.inl (tp c xs h))
    · exact .inl (.inr ⟨o, fz c o _ h⟩)
    · exact .inr h
  · rcases h with ⟨o, h⟩ | h
    · exact .inl ⟨o, fz c o _ h⟩
    · exact .inr h
  · obtain ⟨l, e⟩ := a.m
    rw [e]
    rw [List.getElem?_append_left (by exact (List.getElem?_eq_some_iff.mp h).1)]
    exact h
theorem Rp.ext {v : V} {d : D} (h : Rp K G H v d) (a : Ext G H G' H') (g : Good K G S H) : Rp K G' H' v d := h.pers (a.pers g)
theorem RpA.ext {v : List V} {d : List D} (h : RpA K G H v d) (a : Ext G H G' H') (g : Good K G S H) : RpA K G' H' v d := h.pers (a.pers g)

/-- a new object -/
theorem Ext.new {p : Addr} {o : HO} (hp : H p = none) : Ext G H G (upd H p o) :=
  ⟨fun _ h => h, fun _ h => .inl h, ⟨[], by simp⟩, fun _ h => .inl h, fun a u h _ => by rw [upd_ne (ne_of_none h hp)]; exact h, fun a h => by
    by_cases e : a = p
    · subst e; exact absurd hp h
    · rw [upd_ne e]; exact h⟩
theorem Good.there_fp (g : Good K G S H) {a : Addr} (h : G.fp a) : H a ≠ none := fun e => by
  have := g.mt a h
  rw [e] at this
  exact this
theorem CellOk.pers {m m' : List Addr} {a : Addr} {c : Cell} (h : CellOk K m H a c) (p : Pers K (Gz m) H (Gz m') H') (k : H' a = H a) : CellOk K m' H' a c := by
  cases c with
  | lst xs => obtain ⟨vs, e, z, r⟩ := h; exact ⟨vs, by rw [k]; exact e, z, r.pers p⟩
  | dK xs => obtain ⟨vs, e, z, r⟩ := h; exact ⟨vs, by rw [k]; exact e, z, r.pers p⟩
  | dT xs => obtain ⟨vs, e, z, r⟩ := h; exact ⟨vs, by rw [k]; exact e, z, r.pers p⟩
theorem fp_of {n : Nat} {p : Addr} (h : G.m[n]? = some p) : G.fp p := List.mem_of_getElem? h
/-- an object that no tuple stands at is laid anew -/
theorem Pers.put {a : Addr} {o : HO} (h : H a = none ∨ Mut (H a)) (nF : ¬ G.F a) : Pers K G H G (L2.upd H a o) := by
  have ne : ∀ c u, H c = some u → ¬ Mut (some u) → c ≠ a := fun c u e m z => by
    subst z
    rcases h with h | h
    · rw [h] at e; cases e
    · rw [e] at h; exact m h
  refine ⟨fun c xs h => ?_, fun c xs h => by rw [upd_ne (ne c _ h id)]; exact h, fun c xs h => ?_, fun c xs f h => ⟨f, by rw [upd_ne (show c ≠ a from fun e => nF (by rw [← e]; exact f))]; exact h⟩, fun n p h => h⟩
  · rcases h with (h | ⟨o, h⟩) | h
    · exact .inl (.inl (by rw [upd_ne (ne c _ h id)]; exact h))
    · exact .inl (.inr ⟨o, by rw [upd_ne (ne c _ h id)]; exact h⟩)
    · exact .inr h
  · rcases h with ⟨o, h⟩ | h
    · exact .inl ⟨o, by rw [upd_ne (ne c _ h id)]; exact h⟩
    · exact .inr h
theorem Good.put {a : Addr} {o : HO} (g : Good K G S H) (h : ¬ G.fp a) (hm : H a = none ∨ Mut (H a)) : Good K G S (L2.upd H a o) where
  F0 := fun b f => ⟨by
    by_cases e : b = a
    · subst e; rw [upd_same]; exact fun z => by cases z
    · rw [upd_ne e]; exact (g.F0 b f).1, (g.F0 b f).2⟩
  len := g.len
  cell := fun n p c h1 h2 => (g.cell n p c h1 h2).pers (Pers.put (G := Gz G.m) hm id) (upd_ne (fun e => h (e ▸ fp_of h1)))
  mt := fun b f => by rw [upd_ne (fun e => h (by rw [← e]; exact f))]; exact g.mt b f
  nd := g.nd
theorem Good.new {p : Addr} {o : HO} (g : Good K G S H) (hp : H p = none) : Good K G S (L2.upd H p o) := g.put (fun f => g.there_fp f hp) (.inl hp)
/-- more lists that nothing changes -/
def Gh.more (G : Gh) (P : Addr → Prop) : Gh := ⟨fun a => G.F a ∨ P a, G.m⟩
theorem Gh.more_fp {P : Addr → Prop} {a : Addr} : (G.more P).fp a ↔ G.fp a := Iff.rfl
theorem Good.more {P : Addr → Prop} (g : Good K G S H) (h : ∀ a, P a → H a ≠ none ∧ ¬ G.fp a) : Good K (G.more P) S H :=
  ⟨fun a f => f.elim (g.F0 a) (h a), g.len, g.cell, g.mt, g.nd⟩
theorem Pers.more {P : Addr → Prop} : Pers K G H (G.more P) H := ⟨fun _ _ h => h, fun _ _ h => h, fun _ _ h => h, fun _ _ h e => ⟨.inl h, e⟩, fun _ _ h => h⟩
/-- a new list that nothing changes -/
theorem Ext.newF {p : Addr} {o : HO} (hp : H p = none) : Ext G H (G.more fun a => a = p) (upd H p o) := by
  have e := Ext.new (G := G) (o := o) hp
  exact ⟨fun a h => .inl h, fun a h => h.elim .inl fun z => .inr (by rw [z]; exact hp), e.m, e.fn, e.keep, e.there⟩
theorem Good.newF {p : Addr} {o : HO} (g : Good K G S H) (hp : H p = none) : Good K (G.more fun a => a = p) S (L2.upd H p o) :=
  (g.new hp).more fun a e => by
    subst e
    exact ⟨by rw [upd_same]; exact fun z => (by cases z), fun f => g.there_fp f hp⟩
theorem Rp.newTup {p : Addr} {xs : List V} {ds : List D} (g : Good K G S H) (hp : H p = none) (hz : xs.length ≤ sizeLine) (r : RpA K G H xs ds) : Rp K G (upd H p (.tup xs)) (.ref p) (.tup ds) :=
  .tup upd_same hz (r.ext (Ext.new hp) g)
theorem Rp.newLst {p : Addr} {xs : List V} {ds : List D} (g : Good K G S H) (hp : H p = none) (hz : xs.length ≤ sizeLine) (r : RpA K G H xs ds) : Rp K (G.more fun a => a = p) (upd H p (.lst xs)) (.ref p) (.lst ds) :=
  .lst (.inr rfl) upd_same hz (r.ext (Ext.newF hp) g)
end

/-! ### mirrors of expressions -/
abbrev Env' := List (Option D)
abbrev M (α : Type) := Sto → Option (α × Sto)

structure RelE (K : PySem.W.Frag) (G : Gh) (H : Hp) (σ : L2.St) (ρ : Env') : Prop where
  len : ρ.length = σ.length
  at_ : ∀ (i : Nat) (d : D), ρ[i]? = some (some d) → ∃ v, σ[i]? = some (some v) ∧ Rp K G H v d
section
variable {K : PySem.W.Frag} {G G' : Gh} {S S' : Sto} {H H' : Hp} {σ : L2.St} {ρ : Env'}
theorem RelE.pers (r : RelE K G H σ ρ) (p : Pers K G H G' H') : RelE K G' H' σ ρ := ⟨r.len, fun i d h => let ⟨v, e, q⟩ := r.at_ i d h; ⟨v, e, q.pers p⟩⟩
theorem RelE.ext (r : RelE K G H σ ρ) (a : Ext G H G' H') (g : Good K G S H) : RelE K G' H' σ ρ := r.pers (a.pers g)
end
/-- the reading of an expression with this mirror -/
def tM (K : PySem.W.Frag) (m : Env' → M D) : TE := fun σ H Q => ∃ G ρ S d S', RelE K G H σ ρ ∧ Good K G S H ∧ m ρ S = some (d, S') ∧
  ∀ G' v H', Ext G H G' H' → Good K G' S' H' → Rp K G' H' v d → Q v H'
def tMA (K : PySem.W.Frag) (m : Env' → M (List D)) : TA := fun σ H Q => ∃ G ρ S d S', RelE K G H σ ρ ∧ Good K G S H ∧ m ρ S = some (d, S') ∧
  ∀ G' v H', Ext G H G' H' → Good K G' S' H' → RpA K G' H' v d → Q v H'
def tMT (K : PySem.W.Frag) (m : Env' → M Bool) : TT := fun σ H Q => ∃ G ρ S d S', RelE K G H σ ρ ∧ Good K G S H ∧ m ρ S = some (d, S') ∧
  ∀ G' H', Ext G H G' H' → Good K G' S' H' → Q d H'
/-- .. of one that makes a new list -/
def tF (K : PySem.W.Frag) (m : Env' → M (List D)) : TE := fun σ H Q => ∃ G ρ S d S', RelE K G H σ ρ ∧ Good K G S H ∧ m ρ S = some (d, S') ∧
  ∀ G' p xs H', Ext G H G' H' → Good K G' S' H' → H p = none → ¬ G'.F p → ¬ G'.fp p → H' p = some (.lst xs) → xs.length ≤ sizeLine → RpA K G' H' xs d → Q (.ref p) H'
abbrev JE (X : Cx) (e : Expr) (m : Env' → M D) : Prop := PE X e (tM X.K m)
abbrev JA (X : Cx) (es : List Expr) (m : Env' → M (List D)) : Prop := PA X es (tMA X.K m)
abbrev JT (X : Cx) (e : Expr) (m : Env' → M Bool) : Prop := PT X e (tMT X.K m)
abbrev JF (X : Cx) (e : Expr) (m : Env' → M (List D)) : Prop := PE X e (tF X.K m)

section
variable {X : Cx}
theorem pe_mono {e : Expr} {t t' : TE} (h : PE X e t) (i : ∀ σ H Q, t' σ H Q → t σ H Q) : PE X e t' := ⟨fun pins s σ H Q I q => h.run pins s σ H Q I (i σ H Q q)⟩
theorem pt_mono {e : Expr} {t t' : TT} (h : PT X e t) (i : ∀ σ H Q, t' σ H Q → t σ H Q) : PT X e t' := ⟨fun pins s σ H Q I q => h.run pins s σ H Q I (i σ H Q q)⟩
theorem pw_mono {e : Expr} {t t' : TT} (h : PW X e t) (i : ∀ σ H Q, t' σ H Q → t σ H Q) : PW X e t' := ⟨fun wh pins s σ H Q I q => h.run wh pins s σ H Q I (i σ H Q q)⟩
theorem pa_mono {e : List Expr} {t t' : TA} (h : PA X e t) (i : ∀ σ H Q, t' σ H Q → t σ H Q) : PA X e t' := ⟨fun pos pins s σ H Q I q => h.run pos pins s σ H Q I (i σ H Q q)⟩
theorem ps_mono {e : Stmt} {t t' : TS} (h : PS X e t) (i : ∀ D σ H, t' D σ H → t D σ H) : PS X e t' := ⟨fun pins s σ H D I q => h.run pins s σ H D I (i D σ H q)⟩
theorem pss_mono {e : List Stmt} {t t' : TS} (h : PSs X e t) (i : ∀ D σ H, t' D σ H → t D σ H) : PSs X e t' := ⟨fun pins s σ H D I q => h.run pins s σ H D I (i D σ H q)⟩
end
end J
end
section
set_option Elab.async false
set_option linter.all false
set_option maxRecDepth 100000
set_option maxHeartbeats 4000000
/-! J1: rules of expressions over data. Own work. -/
namespace J
open PySem PySem.Spec PyProof.Rows L2

theorem bnd {α β : Type} {x : Option α} {f : α → Option β} {b : β} (h : x.bind f = some b) : ∃ a, x = some a ∧ f a = some b := Option.bind_eq_some_iff.mp h

/-! ### mirrors -/
def eVar (i : Nat) : Env' → M D := fun ρ S => match ρ[i]? with
  | some (some d) => some (d, S)
  | _ => none
def eC (d : D) : Env' → M D := fun _ S => some (d, S)
def aNil : Env' → M (List D) := fun _ S => some ([], S)
def aCons (a : Env' → M D) (as : Env' → M (List D)) : Env' → M (List D) := fun ρ S => (a ρ S).bind fun r => (as ρ r.2).bind fun q => some (r.1 :: q.1, q.2)
def e1 (f : D → Option D) (a : Env' → M D) : Env' → M D := fun ρ S => (a ρ S).bind fun r => (f r.1).bind fun z => some (z, r.2)
def e2 (f : D → D → Option D) (a b : Env' → M D) : Env' → M D := fun ρ S => (a ρ S).bind fun r => (b ρ r.2).bind fun q => (f r.1 q.1).bind fun z => some (z, q.2)
/-- .. that reads the shared things -/
def e2S (f : Sto → D → D → Option D) (a b : Env' → M D) : Env' → M D := fun ρ S => (a ρ S).bind fun r => (b ρ r.2).bind fun q => (f q.2 r.1 q.1).bind fun z => some (z, q.2)
def eN (f : List D → Option D) (as : Env' → M (List D)) : Env' → M D := fun ρ S => (as ρ S).bind fun r => (f r.1).bind fun z => some (z, r.2)
def eF (f : List D → M D) (as : Env' → M (List D)) : Env' → M D := fun ρ S => (as ρ S).bind fun r => f r.1 r.2
def eTup (as : Env' → M (List D)) : Env' → M D := fun ρ S => (as ρ S).bind fun r => some (.tup r.1, r.2)
def eL (as : Env' → M (List D)) : Env' → M D := fun ρ S => (as ρ S).bind fun r => some (.lst r.1, r.2)
def f2 (f : D → D → Option (List D)) (a b : Env' → M D) : Env' → M (List D) := fun ρ S => (a ρ S).bind fun r => (b ρ r.2).bind fun q => (f r.1 q.1).bind fun z => some (z, q.2)
def eAnd (a b : Env' → M D) : Env' → M D := fun ρ S => (a ρ S).bind fun r => match r.1 with
  | .bl true => b ρ r.2
  | .bl false => some (.bl false, r.2)
  | _ => none
def eOr (a b : Env' → M D) : Env' → M D := fun ρ S => (a ρ S).bind fun r => match r.1 with
  | .bl false => b ρ r.2
  | .bl true => some (.bl true, r.2)
  | _ => none
def eNot (a : Env' → M D) : Env' → M D := fun ρ S => (a ρ S).bind fun r => match r.1 with
  | .bl c => some (.bl (!c), r.2)
  | _ => none
def eIf (t : Env' → M Bool) (a b : Env' → M D) : Env' → M D := fun ρ S => (t ρ S).bind fun r => if r.1 = true then a ρ r.2 else b ρ r.2
def tB (a : Env' → M D) : Env' → M Bool := fun ρ S => (a ρ S).bind fun r => match r.1 with
  | .bl c => some (c, r.2)
  | _ => none
def tAnd (a b : Env' → M Bool) : Env' → M Bool := fun ρ S => (a ρ S).bind fun r => if r.1 = true then b ρ r.2 else some (false, r.2)
def tOr (a b : Env' → M Bool) : Env' → M Bool := fun ρ S => (a ρ S).bind fun r => if r.1 = true then some (true, r.2) else b ρ r.2
def tNot (a : Env' → M Bool) : Env' → M Bool := fun ρ S => (a ρ S).bind fun r => some (!r.1, r.2)
/-- a < b < c -/
def eChain (f g : D → D → Option D) (a b c : Env' → M D) : Env' → M D := fun ρ S => (a ρ S).bind fun r => (b ρ r.2).bind fun q => (f r.1 q.1).bind fun z => match z with
  | .bl true => (c ρ q.2).bind fun p => (g q.1 p.1).bind fun z => some (z, p.2)
  | .bl false => some (.bl false, q.2)
  | _ => none

/-! ### what a rule of the layer does with data -/
def Kq (K : PySem.W.Frag) (G : Gh) (S : Sto) (H : Hp) (z : D) (Q : VK) : Prop := ∀ G' v H', Ext G H G' H' → Good K G' S H' → Rp K G' H' v z → Q v H'
def Kf (K : PySem.W.Frag) (G : Gh) (S : Sto) (H : Hp) (z : List D) (Q : VK) : Prop := ∀ G' p xs H', Ext G H G' H' → Good K G' S H' → H p = none → ¬ G'.F p → ¬ G'.fp p → H' p = some (.lst xs) → xs.length ≤ sizeLine → RpA K G' H' xs z → Q (.ref p) H'
def Ref1 (K : PySem.W.Frag) (r : V → Hp → VK → Prop) (f : D → Option D) : Prop := ∀ G S H x d z Q, Good K G S H → Rp K G H x d → f d = some z → Kq K G S H z Q → r x H Q
def Ref2 (K : PySem.W.Frag) (r : R2) (f : D → D → Option D) : Prop := ∀ G S H x y d e z Q, Good K G S H → Rp K G H x d → Rp K G H y e → f d e = some z → Kq K G S H z Q → r x y H Q
def Ref2S (K : PySem.W.Frag) (r : R2) (f : Sto → D → D → Option D) : Prop := ∀ G S H x y d e z Q, Good K G S H → Rp K G H x d → Rp K G H y e → f S d e = some z → Kq K G S H z Q → r x y H Q
def Ref2F (K : PySem.W.Frag) (r : R2) (f : D → D → Option (List D)) : Prop := ∀ G S H x y d e z Q, Good K G S H → Rp K G H x d → Rp K G H y e → f d e = some z → Kf K G S H z Q → r x y H Q
def RefN (K : PySem.W.Frag) (r : List V → Hp → VK → Prop) (f : List D → Option D) : Prop := ∀ G S H xs ds z Q, Good K G S H → RpA K G H xs ds → f ds = some z → Kq K G S H z Q → r xs H Q
section
variable {K : PySem.W.Frag} {G : Gh} {S : Sto} {H : Hp} {Q : VK}
theorem Kq.here {z : D} {v : V} (k : Kq K G S H z Q) (g : Good K G S H) (r : Rp K G H v z) : Q v H := k G v H Ext.refl g r
theorem Kq.newT {z : List D} {ys : List V} (k : Kq K G S H (.tup z) Q) (g : Good K G S H) (hz : ys.length ≤ sizeLine) (r : RpA K G H ys z) : ∀ p, H p = none → Q (.ref p) (upd H p (.tup ys)) := fun p hp =>
  k G _ _ (Ext.new hp) (g.new hp) (Rp.newTup g hp hz r)
theorem Kq.newL {z : List D} {ys : List V} (k : Kq K G S H (.lst z) Q) (g : Good K G S H) (hz : ys.length ≤ sizeLine) (r : RpA K G H ys z) : ∀ p, H p = none → Q (.ref p) (upd H p (.lst ys)) := fun p hp =>
  k _ _ _ (Ext.newF hp) (g.newF hp) (Rp.newLst g hp hz r)
theorem Good.noF {p : Addr} (g : Good K G S H) (hp : H p = none) : ¬ G.F p := fun f => (g.F0 p f).1 hp
theorem Good.nofp {p : Addr} (g : Good K G S H) (hp : H p = none) : ¬ G.fp p := fun f => g.there_fp f hp
theorem Kf.new {z : List D} {ys : List V} (k : Kf K G S H z Q) (g : Good K G S H) (hz : ys.length ≤ sizeLine) (r : RpA K G H ys z) : ∀ p, H p = none → Q (.ref p) (upd H p (.lst ys)) := fun p hp =>
  k G p ys _ (Ext.new hp) (g.new hp) hp (g.noF hp) (g.nofp hp) upd_same hz (r.ext (Ext.new hp) g)
/-- a new list, nothing changes it any more -/
theorem Kq.of_new {z : List D} (k : Kq K G S H (.lst z) Q) : Kf K G S H z Q := fun G' p xs H' a g hp nF nf e hz r => by
  refine k (G'.more fun a => a = p) (.ref p) H' ⟨fun b h => .inl (a.F b h), fun b h => h.elim (a.Fn b) fun e => .inr (by rw [e]; exact hp), a.m, a.fn, a.keep, a.there⟩ (g.more fun b e2 => ?_) (.lst (.inr rfl) e hz (r.pers Pers.more))
  subst e2
  exact ⟨by rw [e]; exact fun z => (by cases z), nf⟩
end

/-! ### rules -/
section
variable {X : Cx} {a b c : Expr} {es : List Expr} {ma mb mc : Env' → M D} {ms mf : Env' → M (List D)} {pos : Pos}
theorem je_var (i : Nat) {x : Str} (hN : X.N[i]? = some x := by rfl) (hv : Vis X.env.scope x := by first | exact Or.inl rfl | exact Or.inr (Or.inl rfl) | exact Or.inr (Or.inr rfl)) (hd : (x == ("__debug__" : Str)) = false := by decide)
    (hcd : (x == ("__classdict__" : Str)) = false := by decide) : JE X (.Name x pos) (eVar i) := by
  refine pe_mono (pe_var hN hv hd hcd) fun σ H Q h => ?_
  obtain ⟨G, ρ, S, d, S', r, g, e, k⟩ := h
  unfold eVar at e
  split at e
  · rename_i d' hd'
    cases e
    obtain ⟨v, ev, rv⟩ := r.at_ i d hd'
    exact ⟨v, ev, k G v H Ext.refl g rv⟩
  · cases e
theorem je_int {i : Int} {j : Nat} : JE X (.Constant (.int i) j pos) (eC (.int i)) := pe_mono pe_int fun σ H Q ⟨G, ρ, S, d, S', r, g, e, k⟩ => by
  cases e
  exact k G _ H Ext.refl g (.int i)
theorem je_str {i : Str} {j : Nat} : JE X (.Constant (.str i) j pos) (eC (.str i)) := pe_mono pe_str fun σ H Q ⟨G, ρ, S, d, S', r, g, e, k⟩ => by
  cases e
  exact k G _ H Ext.refl g (.str i)
theorem je_bl {i : Bool} {j : Nat} : JE X (.Constant (.bool i) j pos) (eC (.bl i)) := pe_mono pe_bl fun σ H Q ⟨G, ρ, S, d, S', r, g, e, k⟩ => by
  cases e
  exact k G _ H Ext.refl g (.bl i)
theorem je_non {j : Nat} : JE X (.Constant .none j pos) (eC .non) := pe_mono pe_non fun σ H Q ⟨G, ρ, S, d, S', r, g, e, k⟩ => by
  cases e
  exact k G _ H Ext.refl g .non
/-- a module's constant -/
theorem je_gint {x : Str} {i : Int} (hg : Gl X x) (hm : ∃ t, X.mg x = some (.int i t)) (hd : (x == ("__debug__" : Str)) = false := by decide) : JE X (.Name x pos) (eC (.int i)) := by
  obtain ⟨t, hm⟩ := hm
  refine pe_mono (pe_glob (v := .int i) hg hm ⟨t, rfl⟩ hd) fun σ H Q ⟨G, ρ, S, d, S', r, g, e, k⟩ => ?_
  cases e
  exact k G _ H Ext.refl g (.int i)
theorem je_gstr {x : Str} {i : Str} (hg : Gl X x) (hm : ∃ t, X.mg x = some (.str i t)) (hd : (x == ("__debug__" : Str)) = false := by decide) : JE X (.Name x pos) (eC (.str i)) := by
  obtain ⟨t, hm⟩ := hm
  refine pe_mono (pe_glob (v := .str i) hg hm ⟨t, rfl⟩ hd) fun σ H Q ⟨G, ρ, S, d, S', r, g, e, k⟩ => ?_
  cases e
  exact k G _ H Ext.refl g (.str i)
/-- a tuple of texts that the module's name stands for -/
theorem je_gtup {x : Str} {f : Addr} {zs : List Str} (hg : Gl X x) (hm : X.mg x = some (.ref f)) (ht : ∀ H : Hp, SqT X.K H f (zs.map V.str)) (hz : (zs.length : Nat) ≤ sizeLine := by decide) (hd : (x == ("__debug__" : Str)) = false := by decide) : JE X (.Name x pos) (eC (.ct (zs.map D.str))) := by
  refine pe_mono (pe_glob (v := .ref f) hg hm rfl hd) fun σ H Q ⟨G, ρ, S, d, S', r, g, e, k⟩ => ?_
  cases e
  exact k G _ H Ext.refl g (.ct (ht H) (by rw [List.length_map]; exact hz) (RpA.ofStrs zs))

theorem ja_nil : JA X [] aNil := pa_mono pa_nil fun σ H Q ⟨G, ρ, S, d, S', r, g, e, k⟩ => by
  cases e
  exact k G [] H Ext.refl g .nil
theorem ja_cons (ha : JE X a ma) (hr : JA X es ms) (hs : starEach (a :: es) X.env = (false, eval a X.env) :: starEach es X.env := by rfl) : JA X (a :: es) (aCons ma ms) := pa_mono (pa_cons ha hr hs) fun σ H Q ⟨G, ρ, S, d, S', r, g, e, k⟩ => by
  obtain ⟨⟨d1, S1⟩, e1, e⟩ := bnd e
  obtain ⟨⟨d2, S2⟩, e2, e⟩ := bnd e
  cases e
  exact ⟨G, ρ, S, d1, S1, r, g, e1, fun G1 v H1 x1 g1 r1 => ⟨G1, ρ, S1, d2, S2, r.ext x1 g, g1, e2, fun G2 vs H2 x2 g2 r2 => k G2 _ H2 (x1.trans x2) g2 (.cons (r1.ext x2 g1) r2)⟩⟩
/-- a new list as a value -/
theorem je_L (h : JF X a mf) : JE X a (eL mf) := pe_mono h fun σ H Q ⟨G, ρ, S, d, S', r, g, e, k⟩ => by
  obtain ⟨⟨d1, S1⟩, e1, e⟩ := bnd e
  cases e
  refine ⟨G, ρ, S, d1, S1, r, g, e1, fun G' p xs H' x1 g1 hp nF nf e hz r => ?_⟩
  exact Kq.of_new (show Kq X.K G S1 H (.lst d1) Q from k) G' p xs H' x1 g1 hp nF nf e hz r
end
end J
end
section
set_option Elab.async false
set_option linter.all false
set_option maxRecDepth 100000
set_option maxHeartbeats 4000000
/-! J2: displays, operators, comparisons, tests. Own work. -/
namespace J
open PySem PySem.Spec PyProof.Rows L2

section
variable {X : Cx} {a b c : Expr} {es : List Expr} {ma mb mc : Env' → M D} {mt mt' : Env' → M Bool} {ms mf : Env' → M (List D)} {pos : Pos}
/-- how long an argument list is -/
def Len (ms : Env' → M (List D)) (n : Nat) : Prop := ∀ ρ S ds S', ms ρ S = some (ds, S') → ds.length = n
theorem len_nil : Len aNil 0 := fun ρ S ds S' e => by cases e; rfl
theorem len_cons {n : Nat} (h : Len ms n) : Len (aCons ma ms) (n + 1) := fun ρ S ds S' e => by
  obtain ⟨⟨d1, S1⟩, e1, e⟩ := bnd e
  obtain ⟨⟨d2, S2⟩, e2, e⟩ := bnd e
  cases e
  rw [List.length_cons, h _ _ _ _ e2]
theorem line1000 {n : Nat} (h : n ≤ 1000) : n ≤ sizeLine := Nat.le_trans h (by decide)
theorem je_tup {k n : Nat} (h : JA X es ms) (hl : Len ms n) (hn : n ≤ 1000) : JE X (.Tuple es k pos) (eTup ms) := pe_mono (pe_tup h) fun σ H Q ⟨G, ρ, S, d, S', r, g, e, k⟩ => by
  obtain ⟨⟨d1, S1⟩, e1, e⟩ := bnd e
  cases e
  refine ⟨G, ρ, S, d1, S1, r, g, e1, fun G1 vs H1 x1 g1 r1 => ?_⟩
  have hz : vs.length ≤ sizeLine := by rw [r1.length, hl _ _ _ _ e1]; exact line1000 hn
  exact ⟨hz, fun p hp => k G1 _ _ (x1.trans (Ext.new hp)) (g1.new hp) (Rp.newTup g1 hp hz r1)⟩
theorem jf_lst {n : Nat} (h : JA X es ms) (hl : Len ms n) (hn : n ≤ 1000) : JF X (.List es pos) ms := pe_mono (pe_lst h) fun σ H Q ⟨G, ρ, S, d, S', r, g, e, k⟩ => by
  refine ⟨G, ρ, S, d, S', r, g, e, fun G1 vs H1 x1 g1 r1 => ?_⟩
  have hz : vs.length ≤ sizeLine := by rw [r1.length, hl _ _ _ _ e]; exact line1000 hn
  have fr : ∀ p, H1 p = none → H p = none := fun p hp => by
    cases e2 : H p with
    | none => rfl
    | some o => exact absurd hp (x1.there p (by rw [e2]; exact fun z => (by cases z)))
  exact ⟨hz, fun p hp => k G1 p vs _ (x1.trans (Ext.new hp)) (g1.new hp) (fr p hp) (g1.noF hp) (g1.nofp hp) upd_same hz (r1.ext (Ext.new hp) g1)⟩

/-! operators -/
theorem je_op {op : Operator} {r : R2} {f : D → D → Option D} (ho : OpR X (binaryOp op) r) (hr : Ref2 X.K r f) (ha : JE X a ma) (hb : JE X b mb) : JE X (.BinOp a op b pos) (e2 f ma mb) := pe_mono (pe_op ho ha hb) fun σ H Q ⟨G, ρ, S, d, S', r, g, e, k⟩ => by
  obtain ⟨⟨d1, S1⟩, e1, e⟩ := bnd e
  obtain ⟨⟨d2, S2⟩, e2, e⟩ := bnd e
  obtain ⟨z, ez, e⟩ := bnd e
  cases e
  exact ⟨G, ρ, S, d1, S1, r, g, e1, fun G1 x H1 x1 g1 r1 => ⟨G1, ρ, S1, d2, S2, r.ext x1 g, g1, e2, fun G2 y H2 x2 g2 r2 => hr G2 S2 H2 x y d1 d2 _ Q g2 (r1.ext x2 g1) r2 ez fun G3 v H3 x3 g3 r3 => k G3 v H3 ((x1.trans x2).trans x3) g3 r3⟩⟩
theorem fresh_of {G G1 : Gh} {H H1 : Hp} (x1 : Ext G H G1 H1) {p : Addr} (hp : H1 p = none) : H p = none := by
  cases e2 : H p with
  | none => rfl
  | some o => exact absurd hp (x1.there p (by rw [e2]; exact fun z => (by cases z)))
theorem jf_op {op : Operator} {r : R2} {f : D → D → Option (List D)} (ho : OpR X (binaryOp op) r) (hr : Ref2F X.K r f) (ha : JE X a ma) (hb : JE X b mb) : JF X (.BinOp a op b pos) (f2 f ma mb) := pe_mono (pe_op ho ha hb) fun σ H Q ⟨G, ρ, S, d, S', r, g, e, k⟩ => by
  obtain ⟨⟨d1, S1⟩, e1, e⟩ := bnd e
  obtain ⟨⟨d2, S2⟩, e2, e⟩ := bnd e
  obtain ⟨z, ez, e⟩ := bnd e
  cases e
  exact ⟨G, ρ, S, d1, S1, r, g, e1, fun G1 x H1 x1 g1 r1 => ⟨G1, ρ, S1, d2, S2, r.ext x1 g, g1, e2, fun G2 y H2 x2 g2 r2 => hr G2 S2 H2 x y d1 d2 _ Q g2 (r1.ext x2 g1) r2 ez fun G3 p xs H3 x3 g3 hp nF nf e hz r3 =>
    k G3 p xs H3 ((x1.trans x2).trans x3) g3 (fresh_of (x1.trans x2) hp) nF nf e hz r3⟩⟩
theorem je_un {op : UnaryOp} {r : V → Hp → VK → Prop} {f : D → Option D} (ho : UnR X (unaryOp op) r) (hr : Ref1 X.K r f) (ha : JE X a ma) : JE X (.UnaryOp op a pos) (e1 f ma) := pe_mono (pe_un ho ha) fun σ H Q ⟨G, ρ, S, d, S', r, g, e, k⟩ => by
  obtain ⟨⟨d1, S1⟩, e1, e⟩ := bnd e
  obtain ⟨z, ez, e⟩ := bnd e
  cases e
  exact ⟨G, ρ, S, d1, S1, r, g, e1, fun G1 x H1 x1 g1 r1 => hr G1 S1 H1 x d1 _ Q g1 r1 ez fun G3 v H3 x3 g3 r3 => k G3 v H3 (x1.trans x3) g3 r3⟩
theorem je_cmp {op : CmpOp} {r : R2} {f : D → D → Option D} (ho : OpR X (compareOp op) r) (hr : Ref2 X.K r f) (ha : JE X a ma) (hb : JE X b mb) (hm : behindInMarks op b = false) : JE X (.Compare a [op] [b] pos) (e2 f ma mb) := pe_mono (pe_cmpR ho ha hb hm) fun σ H Q ⟨G, ρ, S, d, S', r, g, e, k⟩ => by
  obtain ⟨⟨d1, S1⟩, e1, e⟩ := bnd e
  obtain ⟨⟨d2, S2⟩, e2, e⟩ := bnd e
  obtain ⟨z, ez, e⟩ := bnd e
  cases e
  exact ⟨G, ρ, S, d1, S1, r, g, e1, fun G1 x H1 x1 g1 r1 => ⟨G1, ρ, S1, d2, S2, r.ext x1 g, g1, e2, fun G2 y H2 x2 g2 r2 => hr G2 S2 H2 x y d1 d2 _ Q g2 (r1.ext x2 g1) r2 ez fun G3 v H3 x3 g3 r3 => k G3 v H3 ((x1.trans x2).trans x3) g3 r3⟩⟩
theorem je_cmpS {op : CmpOp} {r : R2} {f : Sto → D → D → Option D} (ho : OpR X (compareOp op) r) (hr : Ref2S X.K r f) (ha : JE X a ma) (hb : JE X b mb) (hm : behindInMarks op b = false) : JE X (.Compare a [op] [b] pos) (e2S f ma mb) := pe_mono (pe_cmpR ho ha hb hm) fun σ H Q ⟨G, ρ, S, d, S', r, g, e, k⟩ => by
  obtain ⟨⟨d1, S1⟩, e1, e⟩ := bnd e
  obtain ⟨⟨d2, S2⟩, e2, e⟩ := bnd e
  obtain ⟨z, ez, e⟩ := bnd e
  cases e
  exact ⟨G, ρ, S, d1, S1, r, g, e1, fun G1 x H1 x1 g1 r1 => ⟨G1, ρ, S1, d2, S2, r.ext x1 g, g1, e2, fun G2 y H2 x2 g2 r2 => hr G2 S2 H2 x y d1 d2 _ Q g2 (r1.ext x2 g1) r2 ez fun G3 v H3 x3 g3 r3 => k G3 v H3 ((x1.trans x2).trans x3) g3 r3⟩⟩
theorem tB_inv {ρ : Env'} {S S' : Sto} {d : Bool} (e : tB ma ρ S = some (d, S')) : ma ρ S = some (.bl d, S') := by
  obtain ⟨⟨d1, S1⟩, e1, e⟩ := bnd e
  cases d1 with
  | bl c => cases e; exact e1
  | _ => cases e
theorem jt_cmp {op : CmpOp} {r : R2} {f : D → D → Option D} (ho : OpR X (compareOp op) r) (hr : Ref2 X.K r f) (ha : JE X a ma) (hb : JE X b mb) (hm : behindInMarks op b = false) : JT X (.Compare a [op] [b] pos) (tB (e2 f ma mb)) := pt_mono (pt_cmpR ho ha hb hm) fun σ H Q ⟨G, ρ, S, d, S', r, g, e, k⟩ => by
  have e := tB_inv e
  obtain ⟨⟨d1, S1⟩, e1, e⟩ := bnd e
  obtain ⟨⟨d2, S2⟩, e2, e⟩ := bnd e
  obtain ⟨z, ez, e⟩ := bnd e
  cases e
  exact ⟨G, ρ, S, d1, S1, r, g, e1, fun G1 x H1 x1 g1 r1 => ⟨G1, ρ, S1, d2, S2, r.ext x1 g, g1, e2, fun G2 y H2 x2 g2 r2 => hr G2 S2 H2 x y d1 d2 _ _ g2 (r1.ext x2 g1) r2 ez fun G3 v H3 x3 g3 r3 =>
    ⟨d, r3.bl_, k G3 H3 ((x1.trans x2).trans x3) g3⟩⟩⟩
theorem jt_cmpS {op : CmpOp} {r : R2} {f : Sto → D → D → Option D} (ho : OpR X (compareOp op) r) (hr : Ref2S X.K r f) (ha : JE X a ma) (hb : JE X b mb) (hm : behindInMarks op b = false) : JT X (.Compare a [op] [b] pos) (tB (e2S f ma mb)) := pt_mono (pt_cmpR ho ha hb hm) fun σ H Q ⟨G, ρ, S, d, S', r, g, e, k⟩ => by
  have e := tB_inv e
  obtain ⟨⟨d1, S1⟩, e1, e⟩ := bnd e
  obtain ⟨⟨d2, S2⟩, e2, e⟩ := bnd e
  obtain ⟨z, ez, e⟩ := bnd e
  cases e
  exact ⟨G, ρ, S, d1, S1, r, g, e1, fun G1 x H1 x1 g1 r1 => ⟨G1, ρ, S1, d2, S2, r.ext x1 g, g1, e2, fun G2 y H2 x2 g2 r2 => hr G2 S2 H2 x y d1 d2 _ _ g2 (r1.ext x2 g1) r2 ez fun G3 v H3 x3 g3 r3 =>
    ⟨d, r3.bl_, k G3 H3 ((x1.trans x2).trans x3) g3⟩⟩⟩
/-- a test whose value is a bool -/
theorem jt_val (h : JE X a ma) (he : ∀ whole, isTrue a X.env whole = (do let v ← whole; standAt a.pos; holding [v] (truthy v)) := by intro _; rfl) : JT X a (tB ma) := pt_mono (pt_val h he) fun σ H Q ⟨G, ρ, S, d, S', r, g, e, k⟩ =>
  ⟨G, ρ, S, .bl d, S', r, g, tB_inv e, fun G1 v H1 x1 g1 r1 => ⟨d, r1.bl_, k G1 H1 x1 g1⟩⟩
abbrev JW (X : Cx) (e : Expr) (m : Env' → M Bool) : Prop := PW X e (tMT X.K m)
theorem jw_and1 (ha : JT X a mt) : JW X (.BoolOp .And [a] pos) mt := pw_and1 ha
theorem jw_or1 (ha : JT X a mt) : JW X (.BoolOp .Or [a] pos) mt := pw_or1 ha
theorem jw_and (ha : JT X a mt) (hb : JW X (.BoolOp .And (b :: es) pos) mt') : JW X (.BoolOp .And (a :: b :: es) pos) (tAnd mt mt') := pw_mono (pw_and ha hb) fun σ H Q ⟨G, ρ, S, d, S', r, g, e, k⟩ => by
  obtain ⟨⟨d1, S1⟩, e1, e⟩ := bnd e
  refine ⟨G, ρ, S, d1, S1, r, g, e1, fun G1 H1 x1 g1 => ?_⟩
  cases d1 with
  | true =>
    dsimp only at e
    rw [if_pos rfl] at e ⊢
    exact ⟨G1, ρ, S1, d, S', r.ext x1 g, g1, e, fun G2 H2 x2 g2 => k G2 H2 (x1.trans x2) g2⟩
  | false =>
    dsimp only at e
    rw [if_neg Bool.false_ne_true] at e ⊢
    cases e
    exact k G1 H1 x1 g1
theorem jw_or (ha : JT X a mt) (hb : JW X (.BoolOp .Or (b :: es) pos) mt') : JW X (.BoolOp .Or (a :: b :: es) pos) (tOr mt mt') := pw_mono (pw_or ha hb) fun σ H Q ⟨G, ρ, S, d, S', r, g, e, k⟩ => by
  obtain ⟨⟨d1, S1⟩, e1, e⟩ := bnd e
  refine ⟨G, ρ, S, d1, S1, r, g, e1, fun G1 H1 x1 g1 => ?_⟩
  cases d1 with
  | true =>
    dsimp only at e
    rw [if_pos rfl] at e ⊢
    cases e
    exact k G1 H1 x1 g1
  | false =>
    dsimp only at e
    rw [if_neg Bool.false_ne_true] at e ⊢
    exact ⟨G1, ρ, S1, d, S', r.ext x1 g, g1, e, fun G2 H2 x2 g2 => k G2 H2 (x1.trans x2) g2⟩
theorem jt_w (h : JW X a mt) : JT X a mt := h.pt
theorem jt_not (ha : JT X a mt) : JT X (.UnaryOp .Not a pos) (tNot mt) := pt_mono (pt_not ha) fun σ H Q ⟨G, ρ, S, d, S', r, g, e, k⟩ => by
  obtain ⟨⟨d1, S1⟩, e1, e⟩ := bnd e
  cases e
  exact ⟨G, ρ, S, d1, S1, r, g, e1, fun G1 H1 x1 g1 => k G1 H1 x1 g1⟩
theorem je_one {op} (h : JE X a ma) : JE X (.BoolOp op [a] pos) ma := pe_one h
theorem je_and (ha : JE X a ma) (hb : JE X (.BoolOp .And (b :: es) pos) mb) : JE X (.BoolOp .And (a :: b :: es) pos) (eAnd ma mb) := pe_mono (pe_and ha hb) fun σ H Q ⟨G, ρ, S, d, S', r, g, e, k⟩ => by
  obtain ⟨⟨d1, S1⟩, e1, e⟩ := bnd e
  refine ⟨G, ρ, S, d1, S1, r, g, e1, fun G1 v H1 x1 g1 r1 => ?_⟩
  cases d1 with
  | bl c =>
    refine ⟨c, r1.bl_, ?_⟩
    cases c with
    | true =>
      rw [if_pos rfl]
      exact ⟨G1, ρ, S1, d, S', r.ext x1 g, g1, e, fun G2 v H2 x2 g2 r2 => k G2 v H2 (x1.trans x2) g2 r2⟩
    | false =>
      rw [if_neg (by decide)]
      cases e
      exact k G1 _ H1 x1 g1 (.bl false)
  | _ => cases e
theorem je_or (ha : JE X a ma) (hb : JE X (.BoolOp .Or (b :: es) pos) mb) : JE X (.BoolOp .Or (a :: b :: es) pos) (eOr ma mb) := pe_mono (pe_or ha hb) fun σ H Q ⟨G, ρ, S, d, S', r, g, e, k⟩ => by
  obtain ⟨⟨d1, S1⟩, e1, e⟩ := bnd e
  refine ⟨G, ρ, S, d1, S1, r, g, e1, fun G1 v H1 x1 g1 r1 => ?_⟩
  cases d1 with
  | bl c =>
    refine ⟨c, r1.bl_, ?_⟩
    cases c with
    | false =>
      rw [if_neg (by decide)]
      exact ⟨G1, ρ, S1, d, S', r.ext x1 g, g1, e, fun G2 v H2 x2 g2 r2 => k G2 v H2 (x1.trans x2) g2 r2⟩
    | true =>
      rw [if_pos rfl]
      cases e
      exact k G1 _ H1 x1 g1 (.bl true)
  | _ => cases e
theorem je_not (ha : JE X a ma) : JE X (.UnaryOp .Not a pos) (eNot ma) := pe_mono (pe_not ha) fun σ H Q ⟨G, ρ, S, d, S', r, g, e, k⟩ => by
  obtain ⟨⟨d1, S1⟩, e1, e⟩ := bnd e
  cases d1 with
  | bl c =>
    cases e
    exact ⟨G, ρ, S, .bl c, S1, r, g, e1, fun G1 v H1 x1 g1 r1 => ⟨c, r1.bl_, k G1 _ H1 x1 g1 (.bl _)⟩⟩
  | _ => cases e
theorem je_if (hc : JT X c mt) (ha : JE X a ma) (hb : JE X b mb) : JE X (.IfExp c a b pos) (eIf mt ma mb) := pe_mono (pe_ifExp hc ha hb) fun σ H Q ⟨G, ρ, S, d, S', r, g, e, k⟩ => by
  obtain ⟨⟨d1, S1⟩, e1, e⟩ := bnd e
  refine ⟨G, ρ, S, d1, S1, r, g, e1, fun G1 H1 x1 g1 => ?_⟩
  cases d1 with
  | true =>
    dsimp only at e
    rw [if_pos rfl] at e ⊢
    exact ⟨G1, ρ, S1, d, S', r.ext x1 g, g1, e, fun G2 v H2 x2 g2 r2 => k G2 v H2 (x1.trans x2) g2 r2⟩
  | false =>
    dsimp only at e
    rw [if_neg Bool.false_ne_true] at e ⊢
    exact ⟨G1, ρ, S1, d, S', r.ext x1 g, g1, e, fun G2 v H2 x2 g2 r2 => k G2 v H2 (x1.trans x2) g2 r2⟩
theorem je_chain {op op' : CmpOp} {r r' : R2} {f f' : D → D → Option D} (ho : OpR X (compareOp op) r) (ho' : OpR X (compareOp op') r') (hr : Ref2 X.K r f) (hr' : Ref2 X.K r' f') (ha : JE X a ma) (hb : JE X b mb) (hc : JE X c mc)
    (hm : lastMarks [op, op'] [b, c] = false := by rfl) : JE X (.Compare a [op, op'] [b, c] pos) (eChain f f' ma mb mc) := pe_mono (pe_chain ho ho' ha hb hc hm) fun σ H Q ⟨G, ρ, S, d, S', r, g, e, k⟩ => by
  obtain ⟨⟨d1, S1⟩, e1, e⟩ := bnd e
  obtain ⟨⟨d2, S2⟩, e2, e⟩ := bnd e
  obtain ⟨z, ez, e⟩ := bnd e
  refine ⟨G, ρ, S, d1, S1, r, g, e1, fun G1 x H1 x1 g1 r1 => ⟨G1, ρ, S1, d2, S2, r.ext x1 g, g1, e2, fun G2 y H2 x2 g2 r2 => hr G2 S2 H2 x y d1 d2 _ _ g2 (r1.ext x2 g1) r2 ez fun G3 v H3 x3 g3 r3 => ?_⟩⟩
  cases z with
  | bl q =>
    refine ⟨q, r3.bl_, ?_⟩
    cases q with
    | true =>
      rw [if_pos rfl]
      obtain ⟨⟨d4, S4⟩, e4, e⟩ := bnd e
      obtain ⟨z5, ez5, e⟩ := bnd e
      cases e
      exact ⟨G3, ρ, S2, d4, S4, ((r.ext x1 g).ext x2 g1).ext x3 g2, g3, e4, fun G4 y4 H4 x4 g4 r4 => hr' G4 S4 H4 y y4 d2 d4 _ Q g4 ((r2.ext x3 g2).ext x4 g3) r4 ez5 fun G5 v H5 x5 g5 r5 => k G5 v H5 ((((x1.trans x2).trans x3).trans x4).trans x5) g5 r5⟩
    | false =>
      rw [if_neg (by decide)]
      cases e
      exact k G3 _ H3 ((x1.trans x2).trans x3) g3 (.bl false)
  | _ => cases e
theorem jt_chain {op op' : CmpOp} {r r' : R2} {f f' : D → D → Option D} (ho : OpR X (compareOp op) r) (ho' : OpR X (compareOp op') r') (hr : Ref2 X.K r f) (hr' : Ref2 X.K r' f') (ha : JE X a ma) (hb : JE X b mb) (hc : JE X c mc)
    (hm : lastMarks [op, op'] [b, c] = false := by rfl) : JT X (.Compare a [op, op'] [b, c] pos) (tB (eChain f f' ma mb mc)) := pt_mono (pt_chain ho ho' ha hb hc hm) fun σ H Q ⟨G, ρ, S, d, S', r, g, e, k⟩ => by
  have e := tB_inv e
  obtain ⟨⟨d1, S1⟩, e1, e⟩ := bnd e
  obtain ⟨⟨d2, S2⟩, e2, e⟩ := bnd e
  obtain ⟨z, ez, e⟩ := bnd e
  refine ⟨G, ρ, S, d1, S1, r, g, e1, fun G1 x H1 x1 g1 r1 => ⟨G1, ρ, S1, d2, S2, r.ext x1 g, g1, e2, fun G2 y H2 x2 g2 r2 => hr G2 S2 H2 x y d1 d2 _ _ g2 (r1.ext x2 g1) r2 ez fun G3 v H3 x3 g3 r3 => ?_⟩⟩
  cases z with
  | bl q =>
    refine ⟨q, r3.bl_, ?_⟩
    cases q with
    | true =>
      rw [if_pos rfl]
      obtain ⟨⟨d4, S4⟩, e4, e⟩ := bnd e
      obtain ⟨z5, ez5, e⟩ := bnd e
      cases e
      exact ⟨G3, ρ, S2, d4, S4, ((r.ext x1 g).ext x2 g1).ext x3 g2, g3, e4, fun G4 y4 H4 x4 g4 r4 => hr' G4 S4 H4 y y4 d2 d4 _ _ g4 ((r2.ext x3 g2).ext x4 g3) r4 ez5 fun G5 v H5 x5 g5 r5 => ⟨d, r5.bl_, k G5 H5 ((((x1.trans x2).trans x3).trans x4).trans x5) g5⟩⟩
    | false =>
      rw [if_neg (by decide)]
      cases e
      exact ⟨_, rfl, k G3 H3 ((x1.trans x2).trans x3) g3⟩
  | _ => cases e
/-! calls of built-ins -/
theorem je_callB {id : String} {x : Str} {r : List V → Hp → VK → Prop} {f : List D → Option D} {p : Pos} (hc : CallR X (.builtin id) r) (hr : RefN X.K r f) (hg : Gl X x) (hm : X.mg x = none) (hv : bootBuiltins x = some (.builtin id)) (ha : JA X (a :: es) ms) (hn : x ≠ "__name__" := by decide) (hdb : (x == ("__debug__" : Str)) = false := by decide)
    (he : starEach (a :: es) X.env = (false, eval a X.env) :: starEach es X.env := by rfl) (hpl : (backTo pos (starEach es X.env)).any (·.1) = false := by rfl) : JE X (.Call (.Name x p) (a :: es) [] pos) (eN f ms) := pe_mono (pe_callB hc hg hm hv ha hn hdb he hpl) fun σ H Q ⟨G, ρ, S, d, S', r, g, e, k⟩ => by
  obtain ⟨⟨d1, S1⟩, e1, e⟩ := bnd e
  obtain ⟨z, ez, e⟩ := bnd e
  cases e
  exact ⟨G, ρ, S, d1, S1, r, g, e1, fun G1 x H1 x1 g1 r1 => hr G1 S1 H1 x d1 _ Q g1 r1 ez fun G3 v H3 x3 g3 r3 => k G3 v H3 (x1.trans x3) g3 r3⟩
theorem je_callTy {T : String} {x : Str} {r : List V → Hp → VK → Prop} {f : List D → Option D} {p : Pos} (hc : CallR X (.type T) r) (hr : RefN X.K r f) (hg : Gl X x) (hm : X.mg x = none) (hv : bootBuiltins x = some (.type T)) (ha : JA X (a :: es) ms) (hn : x ≠ "__name__" := by decide) (hdb : (x == ("__debug__" : Str)) = false := by decide)
    (he : starEach (a :: es) X.env = (false, eval a X.env) :: starEach es X.env := by rfl) (hpl : (backTo pos (starEach es X.env)).any (·.1) = false := by rfl) : JE X (.Call (.Name x p) (a :: es) [] pos) (eN f ms) := pe_mono (pe_callTy hc hg hm hv ha hn hdb he hpl) fun σ H Q ⟨G, ρ, S, d, S', r, g, e, k⟩ => by
  obtain ⟨⟨d1, S1⟩, e1, e⟩ := bnd e
  obtain ⟨z, ez, e⟩ := bnd e
  cases e
  exact ⟨G, ρ, S, d1, S1, r, g, e1, fun G1 x H1 x1 g1 r1 => hr G1 S1 H1 x d1 _ Q g1 r1 ez fun G3 v H3 x3 g3 r3 => k G3 v H3 (x1.trans x3) g3 r3⟩
/-! subscripts -/
theorem je_ix {r : R2} {f : D → D → Option D} (ho : IxR X r) (hr : Ref2 X.K r f) (ha : JE X a ma) (hb : JE X b mb) (hs : PlainIx b) : JE X (.Subscript a b pos) (e2 f ma mb) := pe_mono (pe_ix ho ha hb hs) fun σ H Q ⟨G, ρ, S, d, S', r, g, e, k⟩ => by
  obtain ⟨⟨d1, S1⟩, e1, e⟩ := bnd e
  obtain ⟨⟨d2, S2⟩, e2, e⟩ := bnd e
  obtain ⟨z, ez, e⟩ := bnd e
  cases e
  exact ⟨G, ρ, S, d1, S1, r, g, e1, fun G1 x H1 x1 g1 r1 => ⟨G1, ρ, S1, d2, S2, r.ext x1 g, g1, e2, fun G2 y H2 x2 g2 r2 => hr G2 S2 H2 x y d1 d2 _ Q g2 (r1.ext x2 g1) r2 ez fun G3 v H3 x3 g3 r3 => k G3 v H3 ((x1.trans x2).trans x3) g3 r3⟩⟩
theorem je_ixS {r : R2} {f : Sto → D → D → Option D} (ho : IxR X r) (hr : Ref2S X.K r f) (ha : JE X a ma) (hb : JE X b mb) (hs : PlainIx b) : JE X (.Subscript a b pos) (e2S f ma mb) := pe_mono (pe_ix ho ha hb hs) fun σ H Q ⟨G, ρ, S, d, S', r, g, e, k⟩ => by
  obtain ⟨⟨d1, S1⟩, e1, e⟩ := bnd e
  obtain ⟨⟨d2, S2⟩, e2, e⟩ := bnd e
  obtain ⟨z, ez, e⟩ := bnd e
  cases e
  exact ⟨G, ρ, S, d1, S1, r, g, e1, fun G1 x H1 x1 g1 r1 => ⟨G1, ρ, S1, d2, S2, r.ext x1 g, g1, e2, fun G2 y H2 x2 g2 r2 => hr G2 S2 H2 x y d1 d2 _ Q g2 (r1.ext x2 g1) r2 ez fun G3 v H3 x3 g3 r3 => k G3 v H3 ((x1.trans x2).trans x3) g3 r3⟩⟩
/-- a slice's part -/
def oNone : Env' → M (Option Int) := fun _ S => some (none, S)
def oSome (m : Env' → M D) : Env' → M (Option Int) := fun ρ S => (m ρ S).bind fun r => match r.1 with
  | .int i => some (some i, r.2)
  | _ => none
def tMO (K : PySem.W.Frag) (m : Env' → M (Option Int)) : TO := fun σ H Q => ∃ G ρ S d S', RelE K G H σ ρ ∧ Good K G S H ∧ m ρ S = some (d, S') ∧ ∀ G' H', Ext G H G' H' → Good K G' S' H' → Q d H'
theorem po_mono {e : Option Expr} {t t' : TO} (h : PO X e t) (i : ∀ σ H Q, t' σ H Q → t σ H Q) : PO X e t' := ⟨fun pins s σ H Q I q => h.run pins s σ H Q I (i σ H Q q)⟩
theorem jo_none : PO X none (tMO X.K oNone) := po_mono po_none fun σ H Q ⟨G, ρ, S, d, S', r, g, e, k⟩ => by
  cases e
  exact k G H Ext.refl g
theorem jo_some (h : JE X a ma) : PO X (some a) (tMO X.K (oSome ma)) := po_mono (po_some h) fun σ H Q ⟨G, ρ, S, d, S', r, g, e, k⟩ => by
  obtain ⟨⟨d1, S1⟩, e1, e⟩ := bnd e
  cases d1 with
  | int i =>
    cases e
    exact ⟨G, ρ, S, .int i, S1, r, g, e1, fun G1 v H1 x1 g1 r1 => ⟨i, r1.int_, k G1 H1 x1 g1⟩⟩
  | _ => cases e
def RefS (K : PySem.W.Frag) (r : V → Option Int → Option Int → Hp → VK → Prop) (f : D → Option Int → Option Int → Option D) : Prop := ∀ G S H x d lo hi z Q, Good K G S H → Rp K G H x d → f d lo hi = some z → Kq K G S H z Q → r x lo hi H Q
def e3 (f : D → Option Int → Option Int → Option D) (a : Env' → M D) (l u : Env' → M (Option Int)) : Env' → M D := fun ρ S => (a ρ S).bind fun r => (l ρ r.2).bind fun q => (u ρ q.2).bind fun p => (f r.1 q.1 p.1).bind fun z => some (z, p.2)
theorem je_slice {lo hi : Option Expr} {p2 : Pos} {ml mu : Env' → M (Option Int)} {r : V → Option Int → Option Int → Hp → VK → Prop} {f : D → Option Int → Option Int → Option D} (ho : SlR X r) (hr : RefS X.K r f) (ha : JE X a ma) (hl : PO X lo (tMO X.K ml)) (hu : PO X hi (tMO X.K mu)) :
    JE X (.Subscript a (.Slice lo hi none p2) pos) (e3 f ma ml mu) := pe_mono (pe_slice ho ha hl hu) fun σ H Q ⟨G, ρ, S, d, S', r, g, e, k⟩ => by
  obtain ⟨⟨d1, S1⟩, e1, e⟩ := bnd e
  obtain ⟨⟨d2, S2⟩, e2, e⟩ := bnd e
  obtain ⟨⟨d3, S3⟩, e3, e⟩ := bnd e
  obtain ⟨z, ez, e⟩ := bnd e
  cases e
  exact ⟨G, ρ, S, d1, S1, r, g, e1, fun G1 x H1 x1 g1 r1 => ⟨G1, ρ, S1, d2, S2, r.ext x1 g, g1, e2, fun G2 H2 x2 g2 => ⟨G2, ρ, S2, d3, S3, (r.ext x1 g).ext x2 g1, g2, e3, fun G4 H4 x4 g4 => hr G4 S3 H4 x d1 d2 d3 _ Q g4 ((r1.ext x2 g1).ext x4 g2) ez fun G3 v H3 x3 g3 r3 => k G3 v H3 (((x1.trans x2).trans x4).trans x3) g3 r3⟩⟩⟩
end
end J
end
section
set_option Elab.async false
set_option linter.all false
set_option maxRecDepth 100000
set_option maxHeartbeats 4000000
/-! J3: what the operators and built-ins do with data. Own work. -/
namespace J
open PySem PySem.Spec PyProof.Rows L2

/-! ### lists of one kind -/
def intsD : List D → Option (List Int)
  | [] => some []
  | .int i :: r => (intsD r).map (i :: ·)
  | _ :: _ => none
def strsD : List D → Option (List Str)
  | [] => some []
  | .str i :: r => (strsD r).map (i :: ·)
  | _ :: _ => none
def blsD : List D → Option (List Bool)
  | [] => some []
  | .bl i :: r => (blsD r).map (i :: ·)
  | _ :: _ => none
def vD : D → Option V
  | .non => some .non
  | .bl b => some (.bl b)
  | .int i => some (.int i)
  | .str x => some (.str x)
  | _ => none
def vsD : List D → Option (List V)
  | [] => some []
  | d :: r => (vD d).bind fun v => (vsD r).map (v :: ·)
theorem intsD_map (l : List Int) : intsD (l.map D.int) = some l := by
  induction l with
  | nil => rfl
  | cons a l ih => simp [intsD, ih]
theorem strsD_map (l : List Str) : strsD (l.map D.str) = some l := by
  induction l with
  | nil => rfl
  | cons a l ih => simp [strsD, ih]
theorem blsD_map (l : List Bool) : blsD (l.map D.bl) = some l := by
  induction l with
  | nil => rfl
  | cons a l ih => simp [blsD, ih]
theorem intsD_inv : ∀ {ds : List D} {l : List Int}, intsD ds = some l → ds = l.map D.int
  | [], l, h => by cases h; rfl
  | .int i :: r, l, h => by
    simp only [intsD, Option.map_eq_some_iff] at h
    obtain ⟨m, h1, rfl⟩ := h
    rw [intsD_inv h1]; rfl
  | .non :: _, _, h => by cases h
  | .bl _ :: _, _, h => by cases h
  | .str _ :: _, _, h => by cases h
  | .tup _ :: _, _, h => by cases h
  | .lst _ :: _, _, h => by cases h
  | .ob _ :: _, _, h => by cases h
theorem strsD_inv : ∀ {ds : List D} {l : List Str}, strsD ds = some l → ds = l.map D.str
  | [], l, h => by cases h; rfl
  | .str i :: r, l, h => by
    simp only [strsD, Option.map_eq_some_iff] at h
    obtain ⟨m, h1, rfl⟩ := h
    rw [strsD_inv h1]; rfl
  | .non :: _, _, h => by cases h
  | .bl _ :: _, _, h => by cases h
  | .int _ :: _, _, h => by cases h
  | .tup _ :: _, _, h => by cases h
  | .lst _ :: _, _, h => by cases h
  | .ob _ :: _, _, h => by cases h
theorem blsD_inv : ∀ {ds : List D} {l : List Bool}, blsD ds = some l → ds = l.map D.bl
  | [], l, h => by cases h; rfl
  | .bl i :: r, l, h => by
    simp only [blsD, Option.map_eq_some_iff] at h
    obtain ⟨m, h1, rfl⟩ := h
    rw [blsD_inv h1]; rfl
  | .non :: _, _, h => by cases h
  | .str _ :: _, _, h => by cases h
  | .int _ :: _, _, h => by cases h
  | .tup _ :: _, _, h => by cases h
  | .lst _ :: _, _, h => by cases h
  | .ob _ :: _, _, h => by cases h
section
variable {K : PySem.W.Frag} {G : Gh} {H : Hp}
theorem Rp.flat {v w : V} {d : D} (r : Rp K G H v d) (h : vD d = some w) : v = w := by
  cases d with
  | non => cases h; exact r.non_
  | bl b => cases h; exact r.bl_
  | int i => cases h; exact r.int_
  | str x => cases h; exact r.str_
  | _ => cases h
theorem RpA.flat : ∀ {vs ws : List V} {ds : List D}, RpA K G H vs ds → vsD ds = some ws → vs = ws
  | _, _, [], .nil, h => by cases h; rfl
  | _, _, d :: ds, .cons r t, h => by
    obtain ⟨v, h1, h⟩ := bnd h
    simp only [Option.map_eq_some_iff] at h
    obtain ⟨m, h2, rfl⟩ := h
    rw [r.flat h1, RpA.flat t h2]
theorem vD_flat {d : D} {v : V} (h : vD d = some v) : flatV v = true := by
  cases d <;> cases h <;> rfl
theorem vsD_flat : ∀ {ds : List D} {vs : List V}, vsD ds = some vs → vs.all flatV = true
  | [], _, h => by cases h; rfl
  | d :: ds, _, h => by
    obtain ⟨v, h1, h⟩ := bnd h
    simp only [Option.map_eq_some_iff] at h
    obtain ⟨m, h2, rfl⟩ := h
    rw [List.all_cons, vD_flat h1, vsD_flat h2]; rfl
/-! ### as the library's data -/
mutual
def toPy : D → Option PyData
  | .non => some .none
  | .bl b => some (.bool b)
  | .int i => some (.int i)
  | .str x => some (.str x)
  | .tup xs => (toPyA xs).map .tuple
  | .lst xs => (toPyA xs).map .list
  | _ => none
def toPyA : List D → Option (List PyData)
  | [] => some []
  | d :: r => (toPy d).bind fun p => (toPyA r).map (p :: ·)
end
mutual
theorem Rp.dp : ∀ {v : V} {d : D} {p : PyData}, Rp K G H v d → toPy d = some p → Dp K H v p
  | _, .non, _, r, h => by cases h; rw [r.non_]; exact .non
  | _, .bl b, _, r, h => by cases h; rw [r.bl_]; exact .bl b
  | _, .int i, _, r, h => by cases h; rw [r.int_]; exact .int i
  | _, .str x, _, r, h => by cases h; rw [r.str_]; exact .str x
  | _, .tup xs, _, r, h => by
    simp only [toPy, Option.map_eq_some_iff] at h
    obtain ⟨m, h2, rfl⟩ := h
    obtain ⟨a, ys, rfl, h3, _, h4⟩ := r.tup_
    exact .tup h3 (RpA.dp h4 h2)
  | _, .lst xs, _, r, h => by
    simp only [toPy, Option.map_eq_some_iff] at h
    obtain ⟨m, h2, rfl⟩ := h
    obtain ⟨a, ys, rfl, _, h3, _, h4⟩ := r.lst_
    exact .lst (SqL.of h3) (RpA.dp h4 h2)
  | _, .ob _, _, _, h => by cases h
  | _, .cl _, _, _, h => by cases h
  | _, .ct _, _, _, h => by cases h
theorem RpA.dp : ∀ {v : List V} {d : List D} {p : List PyData}, RpA K G H v d → toPyA d = some p → DpAll K H v p
  | _, [], _, .nil, h => by cases h; exact .nil
  | _, d :: ds, _, .cons r t, h => by
    simp only [toPyA] at h
    obtain ⟨v, h1, h⟩ := bnd h
    simp only [Option.map_eq_some_iff] at h
    obtain ⟨m, h2, rfl⟩ := h
    exact .cons (Rp.dp r h1) (RpA.dp t h2)
end
end

/-! ### the functions -/
def dAdd : D → D → Option D
  | .int i, .int j => some (.int (i + j))
  | .str x, .str y => if x.length + y.length ≤ sizeLine then some (.str (x ++ y)) else none
  | .tup xs, .tup ys => if xs.length + ys.length ≤ sizeLine then some (.tup (xs ++ ys)) else none
  | .lst xs, .lst ys => if xs.length + ys.length ≤ sizeLine then some (.lst (xs ++ ys)) else none
  | _, _ => none
def fAdd : D → D → Option (List D)
  | .lst xs, .lst ys => if xs.length + ys.length ≤ sizeLine then some (xs ++ ys) else none
  | _, _ => none
def dSub : D → D → Option D
  | .int i, .int j => some (.int (i - j))
  | _, _ => none
instance (i j : Int) : Decidable (CMul i j) := inferInstanceAs (Decidable (_ ∨ _))
instance (i j : Int) : Decidable (CDiv i j) := inferInstanceAs (Decidable (_ ∧ _))
instance (i j : Int) : Decidable (CPow i j) := inferInstanceAs (Decidable (_ ∧ _))
def dMul : D → D → Option D
  | .int i, .int j => if CMul i j then some (.int (i * j)) else none
  | .lst xs, .int k => if -(2 ^ 63) ≤ k ∧ k < 2 ^ 63 ∧ xs.length * k.toNat ≤ sizeLine then some (.lst (List.replicate k.toNat xs).flatten) else none
  | _, _ => none
def dDiv : D → D → Option D
  | .int i, .int j => if CDiv i j then some (.int (i / j)) else none
  | _, _ => none
def dMod : D → D → Option D
  | .int i, .int j => if 0 < j then some (.int (i % j)) else none
  | _, _ => none
def dShl : D → D → Option D
  | .int i, .int j => if CPow i j then some (.int (i * 2 ^ j.toNat)) else none
  | _, _ => none
def dNeg : D → Option D
  | .int i => some (.int (-i))
  | _ => none
/-- what stands in a shared list -/
def toPyS (S : Sto) : D → Option PyData
  | .ob n => match S[n]? with
    | some (.lst xs) => (toPyA xs).map .list
    | _ => none
  | d => toPy d
def eqG (S : Sto) (d e : D) : Option Bool := match toPyS S d, toPyS S e with
  | some p, some q => if (SeqAt.shaped p && SeqAt.shaped q) = true then some (PyData.eqv p q) else none
  | _, _ => none
def dEqB (S : Sto) : D → D → Option Bool
  | .int i, .int j => some (decide (i = j))
  | .str x, .str y => some (decide (x = y))
  | d, e => eqG S d e
def dEq (S : Sto) (d e : D) : Option D := (dEqB S d e).map .bl
def dNe (S : Sto) (d e : D) : Option D := (dEqB S d e).map fun b => .bl (!b)
def dLt : D → D → Option D
  | .int i, .int j => some (.bl (decide (i < j)))
  | .tup xs, .tup ys => (intsD xs).bind fun a => (intsD ys).map fun b => .bl (HT.lexLt a b)
  | _, _ => none
def dLe : D → D → Option D
  | .int i, .int j => some (.bl (decide (i ≤ j)))
  | _, _ => none
def dGt : D → D → Option D
  | .int i, .int j => some (.bl (decide (j < i)))
  | _, _ => none
def dGe : D → D → Option D
  | .int i, .int j => some (.bl (decide (j ≤ i)))
  | _, _ => none
def isNonD : D → Bool
  | .non => true
  | _ => false
def dIs : D → D → Option D
  | d, .non => some (.bl (isNonD d))
  | _, _ => none
def dIsNot : D → D → Option D
  | d, .non => some (.bl (!isNonD d))
  | _, _ => none
def dInB : D → D → Option Bool
  | .str x, .str y => match x.cps.toList with
    | [c] => some (decide (c ∈ y.cps.toList))
    | _ => none
  | d, .lst ys => (vD d).bind fun v => (vsD ys).map fun vs => inV v vs
  | d, .tup ys => (vD d).bind fun v => (vsD ys).map fun vs => inV v vs
  | _, _ => none
def dIn (d e : D) : Option D := (dInB d e).map .bl
def dNotIn (d e : D) : Option D := (dInB d e).map fun b => .bl (!b)
def fLen : List D → Option D
  | [.ct xs] => some (.int xs.length)
  | [.cl xs] => some (.int xs.length)
  | [.tup xs] => some (.int xs.length)
  | [.lst xs] => some (.int xs.length)
  | [.str x] => if x.length ≤ sizeLine then some (.int x.length) else none
  | _ => none
def fAll : List D → Option D
  | [.lst xs] => (blsD xs).map fun bs => .bl (bs.all id)
  | _ => none
def fAny : List D → Option D
  | [.lst xs] => (blsD xs).map fun bs => .bl (bs.any id)
  | _ => none
def maxL : List Int → Int
  | [] => 0
  | [a] => a
  | a :: b :: r => max a (maxL (b :: r))
def minL : List Int → Int
  | [] => 0
  | [a] => a
  | a :: b :: r => min a (minL (b :: r))
theorem maxL_mem : ∀ {l : List Int}, l ≠ [] → maxL l ∈ l
  | [], h => absurd rfl h
  | [a], _ => by simp [maxL]
  | a :: b :: r, _ => by
    have ih := maxL_mem (l := b :: r) (by simp)
    unfold maxL
    by_cases h : a ≤ maxL (b :: r)
    · rw [Int.max_eq_right h]; exact List.mem_cons_of_mem _ ih
    · rw [Int.max_eq_left (by omega)]; simp
theorem maxL_le : ∀ {l : List Int} {y : Int}, y ∈ l → y ≤ maxL l
  | [], _, h => by simp at h
  | [a], y, h => by simp at h; subst h; simp [maxL]
  | a :: b :: r, y, h => by
    unfold maxL
    rcases List.mem_cons.mp h with rfl | h
    · exact Int.le_max_left _ _
    · exact Int.le_trans (maxL_le h) (Int.le_max_right _ _)
theorem minL_mem : ∀ {l : List Int}, l ≠ [] → minL l ∈ l
  | [], h => absurd rfl h
  | [a], _ => by simp [minL]
  | a :: b :: r, _ => by
    have ih := minL_mem (l := b :: r) (by simp)
    unfold minL
    by_cases h : a ≤ minL (b :: r)
    · rw [Int.min_eq_left h]; simp
    · rw [Int.min_eq_right (by omega)]; exact List.mem_cons_of_mem _ ih
theorem minL_le : ∀ {l : List Int} {y : Int}, y ∈ l → minL l ≤ y
  | [], _, h => by simp at h
  | [a], y, h => by simp at h; subst h; simp [minL]
  | a :: b :: r, y, h => by
    unfold minL
    rcases List.mem_cons.mp h with rfl | h
    · exact Int.min_le_left _ _
    · exact Int.le_trans (Int.min_le_right _ _) (minL_le h)
def fMax : List D → Option D
  | [.int i, .int j] => some (.int (if j > i then j else i))
  | [.lst xs] => (intsD xs).bind fun ns => if ns = [] then none else some (.int (maxL ns))
  | _ => none
def fMin : List D → Option D
  | [.int i, .int j] => some (.int (if j < i then j else i))
  | [.lst xs] => (intsD xs).bind fun ns => if ns = [] then none else some (.int (minL ns))
  | _ => none
def fStr : List D → Option D
  | [.int i] => if i.natAbs.log2 < 1920 then some (.str (Str.ofString (toString i))) else none
  | _ => none
def fInt : List D → Option D
  | [.int i] => some (.int i)
  | [.str a] => if a.length ≤ 640 then (PySem.intText? a).map .int else none
  | _ => none
def fTuple : List D → Option D
  | [.lst xs] => some (.tup xs)
  | [.tup xs] => some (.tup xs)
  | _ => none
def keyD : D → Option Key
  | .int i => some (.inl i)
  | .str x => some (.inr x)
  | _ => none
def keysD : List D → Option (List Key)
  | [] => some []
  | d :: r => (keyD d).bind fun k => (keysD r).map (k :: ·)
def findK {κ : Type} [DecidableEq κ] (kvs : List (κ × D)) (k : κ) : Option D := (kvs.find? fun p => decide (p.1 = k)).map (·.2)
def dIx (S : Sto) : D → D → Option D
  | .lst xs, .int i => atI xs i
  | .tup xs, .int i => atI xs i
  | .ct xs, .int i => atI xs i
  | .ob n, d => match S[n]? with
    | some (.lst xs) => match d with
      | .int i => atI xs i
      | _ => none
    | some (.dK kvs) => (keyD d).bind fun k => findK kvs k
    | some (.dT kvs) => match d with
      | .tup ks => (keysD ks).bind fun k => findK kvs k
      | _ => none
    | none => none
  | .str z, .int i => if z.length ≤ sizeLine then (atI z.cps.toList i).map fun c => .str ⟨#[c]⟩ else none
  | _, _ => none
def cutL {α : Type} (xs : List α) (lo hi : Option Int) : List α := (xs.drop (HT.sIx xs.length 0 lo)).take (HT.sIx xs.length xs.length hi - HT.sIx xs.length 0 lo)
def dSlice : D → Option Int → Option Int → Option D
  | .cl xs, lo, hi => some (.lst (cutL xs lo hi))
  | .lst xs, lo, hi => some (.lst (cutL xs lo hi))
  | .tup xs, lo, hi => some (.tup (cutL xs lo hi))
  | .str z, lo, hi => if z.length ≤ sizeLine then some (.str (cutS z lo hi)) else none
  | _, _, _ => none
def dJoin : D → D → Option D
  | .str a, .lst xs => (strsD xs).bind fun ys => if (ys.map (·.length)).sum + ys.length * a.length ≤ 16777216 then some (.str (Txt.join a ys)) else none
  | .str a, .tup xs => (strsD xs).bind fun ys => if (ys.map (·.length)).sum + ys.length * a.length ≤ 16777216 then some (.str (Txt.join a ys)) else none
  | _, _ => none
def dSplit : D → D → Option D
  | .str a, .str b => if (b.length == 0) = false ∧ a.length + 2 ≤ sizeLine ∧ (Txt.split a b).length ≤ sizeLine then some (.lst ((Txt.split a b).map .str)) else none
  | _, _ => none

/-! ### the rules -/
section
variable {X : Cx}
theorem ifs {α : Type} {c : Prop} [Decidable c] {x z : α} (h : (if c then some x else none) = some z) : c ∧ x = z := by
  split at h
  · rename_i hc; exact ⟨hc, Option.some.inj h⟩
  · cases h
theorem cut_len {α : Type} (xs : List α) (lo hi : Option Int) : (cutL xs lo hi).length ≤ xs.length := by
  unfold cutL
  rw [List.length_take, List.length_drop]
  omega
theorem RpA.cut {K : PySem.W.Frag} {G : Gh} {H : Hp} {vs : List V} {ds : List D} (r : RpA K G H vs ds) (lo hi : Option Int) : RpA K G H (cutV vs lo hi) (cutL ds lo hi) := by
  unfold cutV cutL
  rw [r.length]
  exact (r.drop _).take _

abbrev rAddJ (K : PySem.W.Frag) : R2 := fun x y H Q => rI0 (fun i j => .int (i + j)) x y H Q ∨ (fun x y H Q => (∃ i j, x = .str i ∧ y = .str j ∧ i.length + j.length ≤ sizeLine ∧ Q (.str (i ++ j)) H) ∨ (fun x y H Q => rCatA K x y H Q ∨ rCat x y H Q) x y H Q) x y H Q
theorem op_addJ : OpR X (binaryOp .Add) (rAddJ X.K) := op_add.or (op_add_str.or (op_catA.or op_cat))
theorem ref_add {K : PySem.W.Frag} : Ref2 K (rAddJ K) dAdd := by
  intro G S H x y d e z Q g rx ry h k
  cases d with
  | int i => cases e with
    | int j => cases h; exact .inl ⟨i, j, rx.int_, ry.int_, k.here g (.int _)⟩
    | _ => cases h
  | str i => cases e with
    | str j =>
      obtain ⟨h1, rfl⟩ := ifs h
      exact .inr (.inl ⟨i, j, rx.str_, ry.str_, h1, k.here g (.str _)⟩)
    | _ => cases h
  | tup i => cases e with
    | tup j =>
      obtain ⟨h1, rfl⟩ := ifs h
      obtain ⟨a, xs, rfl, hx, zx, rx'⟩ := rx.tupH_
      obtain ⟨b, ys, rfl, hy, zy, ry'⟩ := ry.tupH_
      have hz : xs.length + ys.length ≤ sizeLine := by rw [rx'.length, ry'.length]; exact h1
      have hz2 : (xs ++ ys).length ≤ sizeLine := by rw [List.length_append]; exact hz
      refine .inr (.inr (.inl ⟨a, b, xs, ys, rfl, rfl, SqT.of hx, SqT.of hy, hz, fun e => ?_, fun e1 e2 => ?_, fun _ _ p hp => k.newT g hz2 (rx'.append ry') p hp⟩))
      · subst e
        cases rx'
        exact k.here g (.tup hy zy ry')
      · subst e2
        cases ry'
        refine k.here g ?_
        rw [List.append_nil]
        exact .tup hx zx rx'
    | _ => cases h
  | lst i => cases e with
    | lst j =>
      obtain ⟨h1, rfl⟩ := ifs h
      obtain ⟨a, xs, rfl, _, hx, zx, rx'⟩ := rx.lst_
      obtain ⟨b, ys, rfl, _, hy, zy, ry'⟩ := ry.lst_
      have hz : xs.length + ys.length ≤ sizeLine := by rw [rx'.length, ry'.length]; exact h1
      have hz2 : (xs ++ ys).length ≤ sizeLine := by rw [List.length_append]; exact hz
      exact .inr (.inr (.inr ⟨a, b, xs, ys, rfl, rfl, hx, hy, hz, fun p hp => k.newL g hz2 (rx'.append ry') p hp⟩))
    | _ => cases h
  | _ => cases h
theorem ref_cat {K : PySem.W.Frag} : Ref2F K (rAddJ K) fAdd := by
  intro G S H x y d e z Q g rx ry h k
  cases d with
  | lst i => cases e with
    | lst j =>
      obtain ⟨h1, rfl⟩ := ifs h
      obtain ⟨a, xs, rfl, _, hx, zx, rx'⟩ := rx.lst_
      obtain ⟨b, ys, rfl, _, hy, zy, ry'⟩ := ry.lst_
      have hz : xs.length + ys.length ≤ sizeLine := by rw [rx'.length, ry'.length]; exact h1
      have hz2 : (xs ++ ys).length ≤ sizeLine := by rw [List.length_append]; exact hz
      exact .inr (.inr (.inr ⟨a, b, xs, ys, rfl, rfl, hx, hy, hz, fun p hp => k.new g hz2 (rx'.append ry') p hp⟩))
    | _ => cases h
  | _ => cases h
theorem ref_sub {K : PySem.W.Frag} : Ref2 K (rI0 fun i j => .int (i - j)) dSub := by
  intro G S H x y d e z Q g rx ry h k
  cases d with
  | int i => cases e with
    | int j => cases h; exact ⟨i, j, rx.int_, ry.int_, k.here g (.int _)⟩
    | _ => cases h
  | _ => cases h
abbrev rMulJ : R2 := fun x y H Q => rI CMul (fun i j => .int (i * j)) x y H Q ∨ rRep x y H Q
theorem op_mulJ : OpR X (binaryOp .Mult) rMulJ := op_mul.or op_rep
theorem RpA.repL {K : PySem.W.Frag} {G : Gh} {H : Hp} {vs : List V} {ds : List D} (r : RpA K G H vs ds) : ∀ n : Nat, RpA K G H (List.replicate n vs).flatten (List.replicate n ds).flatten
  | 0 => .nil
  | n + 1 => by
    rw [List.replicate_succ, List.replicate_succ, List.flatten_cons, List.flatten_cons]
    exact r.append (RpA.repL r n)
theorem ref_mul {K : PySem.W.Frag} : Ref2 K rMulJ dMul := by
  intro G S H x y d e z Q g rx ry h k
  cases d with
  | int i => cases e with
    | int j =>
      obtain ⟨h1, rfl⟩ := ifs h
      exact .inl ⟨i, j, rx.int_, ry.int_, h1, k.here g (.int _)⟩
    | _ => cases h
  | lst i => cases e with
    | int j =>
      obtain ⟨⟨h1, h2, h3⟩, rfl⟩ := ifs h
      obtain ⟨a, xs, rfl, _, hx, zx, rx'⟩ := rx.lst_
      have hz : xs.length * j.toNat ≤ sizeLine := by rw [rx'.length]; exact h3
      refine .inr ⟨a, j, xs, rfl, ry.int_, hx, h1, h2, hz, fun p hp => k.newL g ?_ (rx'.repL _) p hp⟩
      rw [(rx'.repL j.toNat).length, List.length_flatten, List.map_replicate, List.sum_replicate_nat, Nat.mul_comm]
      exact h3
    | _ => cases h
  | _ => cases h
theorem ref_div {K : PySem.W.Frag} : Ref2 K (rI CDiv fun i j => .int (i / j)) dDiv := by
  intro G S H x y d e z Q g rx ry h k
  cases d with
  | int i => cases e with
    | int j =>
      obtain ⟨h1, rfl⟩ := ifs h
      exact ⟨i, j, rx.int_, ry.int_, h1, k.here g (.int _)⟩
    | _ => cases h
  | _ => cases h
theorem ref_mod {K : PySem.W.Frag} : Ref2 K (rI (fun _ j => 0 < j) fun i j => .int (i % j)) dMod := by
  intro G S H x y d e z Q g rx ry h k
  cases d with
  | int i => cases e with
    | int j =>
      obtain ⟨h1, rfl⟩ := ifs h
      exact ⟨i, j, rx.int_, ry.int_, h1, k.here g (.int _)⟩
    | _ => cases h
  | _ => cases h
theorem ref_shl {K : PySem.W.Frag} : Ref2 K (rI CPow fun i j => .int (i * 2 ^ j.toNat)) dShl := by
  intro G S H x y d e z Q g rx ry h k
  cases d with
  | int i => cases e with
    | int j =>
      obtain ⟨h1, rfl⟩ := ifs h
      exact ⟨i, j, rx.int_, ry.int_, h1, k.here g (.int _)⟩
    | _ => cases h
  | _ => cases h
theorem ref_neg {K : PySem.W.Frag} : Ref1 K (rU fun i => .int (-i)) dNeg := by
  intro G S H x d z Q g rx h k
  cases d with
  | int i => cases h; exact ⟨i, rx.int_, k.here g (.int _)⟩
  | _ => cases h

abbrev rEqJ (K : PySem.W.Frag) : R2 := fun x y H Q => rEq x y H Q ∨ rEqD K x y H Q
abbrev rNeJ (K : PySem.W.Frag) : R2 := fun x y H Q => rNe x y H Q ∨ rNeD K x y H Q
theorem op_eqJ (hu : X.A.units + 64 < cLine) : OpR X (compareOp .Eq) (rEqJ X.K) := op_eq.or (op_eqD hu)
theorem op_neJ (hu : X.A.units + 64 < cLine) : OpR X (compareOp .NotEq) (rNeJ X.K) := op_ne.or (op_neD hu)
theorem cell_at {K : PySem.W.Frag} {G : Gh} {S : Sto} {H : Hp} {v : V} {n : Nat} {c : Cell} (g : Good K G S H) (r : Rp K G H v (.ob n)) (h : S[n]? = some c) : ∃ p, v = .ref p ∧ G.m[n]? = some p ∧ CellOk K G.m H p c := by
  obtain ⟨p, rfl, h1⟩ := r.ob_
  exact ⟨p, rfl, h1, g.cell n p c h1 h⟩
theorem Rp.dpS {K : PySem.W.Frag} {G : Gh} {S : Sto} {H : Hp} {v : V} {d : D} {p : PyData} (g : Good K G S H) (r : Rp K G H v d) (h : toPyS S d = some p) : Dp K H v p := by
  cases d with
  | ob n =>
    simp only [toPyS] at h
    split at h
    · rename_i xs hc
      obtain ⟨m, h2, rfl⟩ := Option.map_eq_some_iff.mp h
      obtain ⟨a, rfl, _, vs, e, _, r2⟩ := cell_at g r hc
      exact .lst (SqL.of e) (RpA.dp r2 h2)
    · cases h
  | _ => exact r.dp h
theorem eqB_ref {K : PySem.W.Frag} {G : Gh} {S : Sto} {H : Hp} {x y : V} {d e : D} {b : Bool} (g : Good K G S H) (rx : Rp K G H x d) (ry : Rp K G H y e) (h : dEqB S d e = some b) :
    (scal x y = true ∧ decide (x = y) = b) ∨ ∃ p q, Dp K H x p ∧ Dp K H y q ∧ SeqAt.shaped p = true ∧ SeqAt.shaped q = true ∧ PyData.eqv p q = b := by
  have gen : eqG S d e = some b → ∃ p q, Dp K H x p ∧ Dp K H y q ∧ SeqAt.shaped p = true ∧ SeqAt.shaped q = true ∧ PyData.eqv p q = b := fun h => by
    unfold eqG at h
    cases e1 : toPyS S d with
    | none => rw [e1] at h; cases h
    | some p =>
      cases e2 : toPyS S e with
      | none => rw [e1, e2] at h; cases h
      | some q =>
        rw [e1, e2] at h
        obtain ⟨h1, h2⟩ := ifs h
        obtain ⟨h3, h4⟩ := Bool.and_eq_true_iff.mp h1
        exact ⟨p, q, rx.dpS g e1, ry.dpS g e2, h3, h4, h2⟩
  cases d with
  | int i => cases e with
    | int j =>
      cases h
      rw [rx.int_, ry.int_]
      exact .inl ⟨rfl, by simp⟩
    | _ => exact .inr (gen h)
  | str i => cases e with
    | str j =>
      cases h
      rw [rx.str_, ry.str_]
      exact .inl ⟨rfl, by simp⟩
    | _ => exact .inr (gen h)
  | _ => exact .inr (gen h)
theorem ref_eq {K : PySem.W.Frag} : Ref2S K (rEqJ K) dEq := by
  intro G S H x y d e z Q g rx ry h k
  simp only [dEq, Option.map_eq_some_iff] at h
  obtain ⟨b, h, rfl⟩ := h
  rcases eqB_ref g rx ry h with ⟨h1, rfl⟩ | ⟨p, q, h1, h2, h3, h4, rfl⟩
  · exact .inl ⟨h1, k.here g (.bl _)⟩
  · exact .inr ⟨p, q, h1, h2, h3, h4, k.here g (.bl _)⟩
theorem ref_ne {K : PySem.W.Frag} : Ref2S K (rNeJ K) dNe := by
  intro G S H x y d e z Q g rx ry h k
  simp only [dNe, Option.map_eq_some_iff] at h
  obtain ⟨b, h, rfl⟩ := h
  rcases eqB_ref g rx ry h with ⟨h1, rfl⟩ | ⟨p, q, h1, h2, h3, h4, rfl⟩
  · exact .inl ⟨h1, k.here g (.bl _)⟩
  · exact .inr ⟨p, q, h1, h2, h3, h4, k.here g (.bl _)⟩
abbrev rLtJ (K : PySem.W.Frag) : R2 := fun x y H Q => rI0 (fun i j => .bl (decide (i < j))) x y H Q ∨ rLtT K x y H Q
theorem op_ltJ (hu : X.A.units < cLine) : OpR X (compareOp .Lt) (rLtJ X.K) := op_lt.or (op_ltT hu)
theorem ref_lt {K : PySem.W.Frag} : Ref2 K (rLtJ K) dLt := by
  intro G S H x y d e z Q g rx ry h k
  cases d with
  | int i => cases e with
    | int j => cases h; exact .inl ⟨i, j, rx.int_, ry.int_, k.here g (.bl _)⟩
    | _ => cases h
  | tup i => cases e with
    | tup j =>
      obtain ⟨a, h1, h⟩ := bnd (show ((intsD i).bind fun a => (intsD j).map fun b => D.bl (HT.lexLt a b)) = some z from h)
      simp only [Option.map_eq_some_iff] at h
      obtain ⟨b, h2, rfl⟩ := h
      obtain ⟨p, xs, rfl, hx, zx, rx'⟩ := rx.tup_
      obtain ⟨q, ys, rfl, hy, zy, ry'⟩ := ry.tup_
      rw [intsD_inv h1] at rx'
      rw [intsD_inv h2] at ry'
      rw [rx'.ints] at hx
      rw [ry'.ints] at hy
      exact .inr ⟨p, q, a, b, rfl, rfl, hx, hy, k.here g (.bl _)⟩
    | _ => cases h
  | _ => cases h
theorem ref_le {K : PySem.W.Frag} : Ref2 K (rI0 fun i j => .bl (decide (i ≤ j))) dLe := by
  intro G S H x y d e z Q g rx ry h k
  cases d with
  | int i => cases e with
    | int j => cases h; exact ⟨i, j, rx.int_, ry.int_, k.here g (.bl _)⟩
    | _ => cases h
  | _ => cases h
theorem ref_gt {K : PySem.W.Frag} : Ref2 K (rI0 fun i j => .bl (decide (j < i))) dGt := by
  intro G S H x y d e z Q g rx ry h k
  cases d with
  | int i => cases e with
    | int j => cases h; exact ⟨i, j, rx.int_, ry.int_, k.here g (.bl _)⟩
    | _ => cases h
  | _ => cases h
theorem ref_ge {K : PySem.W.Frag} : Ref2 K (rI0 fun i j => .bl (decide (j ≤ i))) dGe := by
  intro G S H x y d e z Q g rx ry h k
  cases d with
  | int i => cases e with
    | int j => cases h; exact ⟨i, j, rx.int_, ry.int_, k.here g (.bl _)⟩
    | _ => cases h
  | _ => cases h
theorem Rp.isNon {K : PySem.W.Frag} {G : Gh} {H : Hp} {x : V} {d : D} (r : Rp K G H x d) : decide (x = .non) = isNonD d := by
  cases r <;> rfl
theorem ref_is {K : PySem.W.Frag} : Ref2 K (fun x y H Q => y = .non ∧ Q (.bl (decide (x = .non))) H) dIs := by
  intro G S H x y d e z Q g rx ry h k
  cases e with
  | non =>
    cases d <;> (cases h; exact ⟨ry.non_, k.here g (by rw [rx.isNon]; exact .bl _)⟩)
  | _ => cases d <;> cases h
theorem ref_isnot {K : PySem.W.Frag} : Ref2 K (fun x y H Q => y = .non ∧ Q (.bl (!decide (x = .non))) H) dIsNot := by
  intro G S H x y d e z Q g rx ry h k
  cases e with
  | non =>
    cases d <;> (cases h; exact ⟨ry.non_, k.here g (by rw [rx.isNon]; exact .bl _)⟩)
  | _ => cases d <;> cases h
abbrev rInJ (K : PySem.W.Frag) : R2 := fun x y H Q => (∃ (c : Nat) (z : Str), x = .str ⟨#[c]⟩ ∧ y = .str z ∧ Q (.bl (decide (c ∈ z.cps.toList))) H) ∨ rIn K false x y H Q
abbrev rNotInJ (K : PySem.W.Frag) : R2 := fun x y H Q => (∃ (c : Nat) (z : Str), x = .str ⟨#[c]⟩ ∧ y = .str z ∧ Q (.bl (!decide (c ∈ z.cps.toList))) H) ∨ rIn K true x y H Q
theorem op_inJ : OpR X (compareOp .In) (rInJ X.K) := op_in_sign.or op_in_seq
theorem op_notInJ : OpR X (compareOp .NotIn) (rNotInJ X.K) := op_notIn_sign.or op_notIn_seq
theorem inB_ref {K : PySem.W.Frag} {G : Gh} {H : Hp} {x y : V} {d e : D} {b : Bool} (rx : Rp K G H x d) (ry : Rp K G H y e) (h : dInB d e = some b) :
    (∃ (c : Nat) (z : Str), x = .str ⟨#[c]⟩ ∧ y = .str z ∧ decide (c ∈ z.cps.toList) = b) ∨ ∃ p xs, y = .ref p ∧ (SqL K H p xs ∨ SqT K H p xs) ∧ flatV x = true ∧ xs.all flatV = true ∧ inV x xs = b := by
  have lst : ∀ ys, e = .lst ys → ((vD d).bind fun v => (vsD ys).map fun vs => inV v vs) = some b → ∃ p xs, y = .ref p ∧ (SqL K H p xs ∨ SqT K H p xs) ∧ flatV x = true ∧ xs.all flatV = true ∧ inV x xs = b := fun ys e1 h5 => by
    subst e1
    clear h
    obtain ⟨v, h1, h⟩ := bnd h5
    simp only [Option.map_eq_some_iff] at h
    obtain ⟨vs, h2, rfl⟩ := h
    obtain ⟨p, xs, rfl, _, hx, _, r⟩ := ry.lst_
    have e3 := rx.flat h1
    have e4 := r.flat h2
    subst e3 e4
    exact ⟨p, _, rfl, .inl (SqL.of hx), vD_flat h1, vsD_flat h2, rfl⟩
  have tup : ∀ ys, e = .tup ys → ((vD d).bind fun v => (vsD ys).map fun vs => inV v vs) = some b → ∃ p xs, y = .ref p ∧ (SqL K H p xs ∨ SqT K H p xs) ∧ flatV x = true ∧ xs.all flatV = true ∧ inV x xs = b := fun ys e1 h5 => by
    subst e1
    clear h
    obtain ⟨v, h1, h⟩ := bnd h5
    simp only [Option.map_eq_some_iff] at h
    obtain ⟨vs, h2, rfl⟩ := h
    obtain ⟨p, xs, rfl, hx, _, r⟩ := ry.tup_
    have e3 := rx.flat h1
    have e4 := r.flat h2
    subst e3 e4
    exact ⟨p, _, rfl, .inr hx, vD_flat h1, vsD_flat h2, rfl⟩
  cases e with
  | lst ys => cases d <;> exact .inr (lst ys rfl h)
  | tup ys => cases d <;> exact .inr (tup ys rfl h)
  | str z =>
    cases d with
    | str w =>
      left
      have h : (match w.cps.toList with
        | [c] => some (decide (c ∈ z.cps.toList))
        | _ => none) = some b := h
      split at h
      · rename_i c hc
        refine ⟨c, z, ?_, ry.str_, Option.some.inj h⟩
        rw [rx.str_]
        congr 1
        exact TL.ext_tl hc
      · cases h
    | _ => cases h
  | _ => cases d <;> cases h
theorem ref_in {K : PySem.W.Frag} : Ref2 K (rInJ K) dIn := by
  intro G S H x y d e z Q g rx ry h k
  simp only [dIn, Option.map_eq_some_iff] at h
  obtain ⟨b, h, rfl⟩ := h
  rcases inB_ref rx ry h with ⟨c, w, h1, h2, rfl⟩ | ⟨p, xs, h1, h2, h3, h4, rfl⟩
  · exact .inl ⟨c, w, h1, h2, k.here g (.bl _)⟩
  · exact .inr ⟨p, xs, h1, h2, h3, h4, k.here g (.bl _)⟩
theorem ref_notIn {K : PySem.W.Frag} : Ref2 K (rNotInJ K) dNotIn := by
  intro G S H x y d e z Q g rx ry h k
  simp only [dNotIn, Option.map_eq_some_iff] at h
  obtain ⟨b, h, rfl⟩ := h
  rcases inB_ref rx ry h with ⟨c, w, h1, h2, rfl⟩ | ⟨p, xs, h1, h2, h3, h4, rfl⟩
  · exact .inl ⟨c, w, h1, h2, k.here g (.bl _)⟩
  · exact .inr ⟨p, xs, h1, h2, h3, h4, k.here g (.bl _)⟩

theorem rpa1 {K : PySem.W.Frag} {G : Gh} {H : Hp} {vs : List V} {d : D} (r : RpA K G H vs [d]) : ∃ v, vs = [v] ∧ Rp K G H v d := by
  cases r with
  | cons r1 t => cases t; exact ⟨_, rfl, r1⟩
theorem rpa2 {K : PySem.W.Frag} {G : Gh} {H : Hp} {vs : List V} {d e : D} (r : RpA K G H vs [d, e]) : ∃ v w, vs = [v, w] ∧ Rp K G H v d ∧ Rp K G H w e := by
  cases r with
  | cons r1 t => cases t with
    | cons r2 t => cases t; exact ⟨_, _, rfl, r1, r2⟩
abbrev rLenJ (K : PySem.W.Frag) : List V → Hp → VK → Prop := fun xs H Q => (∃ p ys, xs = [.ref p] ∧ (SqL K H p ys ∨ SqT K H p ys) ∧ Q (.int ys.length) H) ∨ ∃ z, xs = [.str z] ∧ z.length ≤ sizeLine ∧ Q (.int z.length) H
theorem call_lenJ : CallR X (.builtin "len") (rLenJ X.K) := call_len_seq.or call_len_str
theorem ref_len {K : PySem.W.Frag} : RefN K (rLenJ K) fLen := by
  intro G S H xs ds z Q g r h k
  match ds, h with
  | [.ct ys], h =>
    cases h
    obtain ⟨v, rfl, q1⟩ := rpa1 r
    obtain ⟨a, xs, rfl, hx, zx, rx'⟩ := q1.ct_
    exact .inl ⟨a, xs, rfl, .inr hx, k.here g (by rw [rx'.length]; exact .int _)⟩
  | [.cl ys], h =>
    cases h
    obtain ⟨v, rfl, q1⟩ := rpa1 r
    obtain ⟨a, xs, rfl, hx, zx, rx'⟩ := q1.cl_
    exact .inl ⟨a, xs, rfl, .inl hx.sq, k.here g (by rw [rx'.length]; exact .int _)⟩
  | [.tup ys], h =>
    cases h
    obtain ⟨v, rfl, q1⟩ := rpa1 r
    obtain ⟨a, xs, rfl, hx, zx, rx'⟩ := q1.tup_
    exact .inl ⟨a, xs, rfl, .inr hx, k.here g (by rw [rx'.length]; exact .int _)⟩
  | [.lst ys], h =>
    cases h
    obtain ⟨v, rfl, q1⟩ := rpa1 r
    obtain ⟨a, xs, rfl, _, hx, zx, rx'⟩ := q1.lst_
    exact .inl ⟨a, xs, rfl, .inl (SqL.of hx), k.here g (by rw [rx'.length]; exact .int _)⟩
  | [.str x], h =>
    obtain ⟨h1, rfl⟩ := ifs h
    obtain ⟨v, rfl, q1⟩ := rpa1 r
    exact .inr ⟨x, by rw [q1.str_], h1, k.here g (.int _)⟩
theorem ref_all {K : PySem.W.Frag} : RefN K (rAll K) fAll := by
  intro G S H xs ds z Q g r h k
  match ds, h with
  | [.lst ys], h =>
    simp only [fAll, Option.map_eq_some_iff] at h
    obtain ⟨bs, hb, rfl⟩ := h
    obtain ⟨v, rfl, q1⟩ := rpa1 r
    obtain ⟨a, xs, rfl, _, hx, zx, rx'⟩ := q1.lst_
    rw [blsD_inv hb] at rx'
    rw [rx'.bls] at hx
    exact ⟨a, bs, rfl, SqL.of hx, k.here g (.bl _)⟩
theorem ref_any {K : PySem.W.Frag} : RefN K (rAny K) fAny := by
  intro G S H xs ds z Q g r h k
  match ds, h with
  | [.lst ys], h =>
    simp only [fAny, Option.map_eq_some_iff] at h
    obtain ⟨bs, hb, rfl⟩ := h
    obtain ⟨v, rfl, q1⟩ := rpa1 r
    obtain ⟨a, xs, rfl, _, hx, zx, rx'⟩ := q1.lst_
    rw [blsD_inv hb] at rx'
    rw [rx'.bls] at hx
    exact ⟨a, bs, rfl, SqL.of hx, k.here g (.bl _)⟩
abbrev rMaxJ (K : PySem.W.Frag) : List V → Hp → VK → Prop := fun xs H Q => (∃ i j, xs = [.int i, .int j] ∧ Q (.int (if j > i then j else i)) H) ∨ rMax K xs H Q
abbrev rMinJ (K : PySem.W.Frag) : List V → Hp → VK → Prop := fun xs H Q => (∃ i j, xs = [.int i, .int j] ∧ Q (.int (if j < i then j else i)) H) ∨ rMin K xs H Q
theorem call_maxJ (hc : X.calm = true) : CallR X (.builtin "max") (rMaxJ X.K) := (call_max2 hc).or (cr_max hc)
theorem call_minJ (hc : X.calm = true) : CallR X (.builtin "min") (rMinJ X.K) := (call_min2 hc).or (cr_min hc)
theorem ref_max {K : PySem.W.Frag} : RefN K (rMaxJ K) fMax := by
  intro G S H xs ds z Q g r h k
  match ds, h with
  | [.int i, .int j], h =>
    cases h
    obtain ⟨v, w, rfl, r1, r2⟩ := rpa2 r
    exact .inl ⟨i, j, by rw [r1.int_, r2.int_], k.here g (.int _)⟩
  | [.lst ys], h =>
    obtain ⟨ns, h1, h⟩ := bnd (show ((intsD ys).bind fun ns => if ns = [] then none else some (D.int (maxL ns))) = some z from h)
    split at h
    · cases h
    · rename_i hne
      cases h
      obtain ⟨v, rfl, q1⟩ := rpa1 r
      obtain ⟨a, xs, rfl, _, hx, zx, rx'⟩ := q1.lst_
      rw [intsD_inv h1] at rx'
      rw [rx'.ints] at hx
      refine .inr ⟨a, ns, rfl, SqL.of hx, List.length_pos_iff.mpr hne, fun m hm hle => ?_⟩
      have e : m = maxL ns := Int.le_antisymm (maxL_le hm) (hle _ (maxL_mem hne))
      subst e
      exact k.here g (.int _)
theorem ref_min {K : PySem.W.Frag} : RefN K (rMinJ K) fMin := by
  intro G S H xs ds z Q g r h k
  match ds, h with
  | [.int i, .int j], h =>
    cases h
    obtain ⟨v, w, rfl, r1, r2⟩ := rpa2 r
    exact .inl ⟨i, j, by rw [r1.int_, r2.int_], k.here g (.int _)⟩
  | [.lst ys], h =>
    obtain ⟨ns, h1, h⟩ := bnd (show ((intsD ys).bind fun ns => if ns = [] then none else some (D.int (minL ns))) = some z from h)
    split at h
    · cases h
    · rename_i hne
      cases h
      obtain ⟨v, rfl, q1⟩ := rpa1 r
      obtain ⟨a, xs, rfl, _, hx, zx, rx'⟩ := q1.lst_
      rw [intsD_inv h1] at rx'
      rw [rx'.ints] at hx
      refine .inr ⟨a, ns, rfl, SqL.of hx, List.length_pos_iff.mpr hne, fun m hm hle => ?_⟩
      have e : m = minL ns := Int.le_antisymm (hle _ (minL_mem hne)) (minL_le hm)
      subst e
      exact k.here g (.int _)
theorem ref_str {K : PySem.W.Frag} : RefN K (fun xs H Q => ∃ i : Int, xs = [.int i] ∧ i.natAbs.log2 < 1920 ∧ Q (.str (toString i)) H) fStr := by
  intro G S H xs ds z Q g r h k
  match ds, h with
  | [.int i], h =>
    obtain ⟨h1, rfl⟩ := ifs h
    obtain ⟨v, rfl, q1⟩ := rpa1 r
    exact ⟨i, by rw [q1.int_], h1, k.here g (.str _)⟩
abbrev rIntJ : List V → Hp → VK → Prop := fun xs H Q => (∃ a n, xs = [.str a] ∧ PySem.intText? a = some n ∧ a.length ≤ 640 ∧ Q (.int n) H) ∨ (fun xs H Q => (∃ i, xs = [.int i] ∧ Q (.int i) H) ∨ ∃ k, xs = [.bl k] ∧ Q (.int (if k then 1 else 0)) H) xs H Q
theorem call_intJ : CallR X (.type "int") rIntJ := call_int_str.or call_int1
theorem ref_int {K : PySem.W.Frag} : RefN K rIntJ fInt := by
  intro G S H xs ds z Q g r h k
  match ds, h with
  | [.int i], h =>
    cases h
    obtain ⟨v, rfl, q1⟩ := rpa1 r
    exact .inr (.inl ⟨i, by rw [q1.int_], k.here g (.int _)⟩)
  | [.str a], h =>
    have h : (if a.length ≤ 640 then (PySem.intText? a).map D.int else none) = some z := h
    split at h
    · rename_i hl
      simp only [Option.map_eq_some_iff] at h
      obtain ⟨n, hn, rfl⟩ := h
      obtain ⟨v, rfl, q1⟩ := rpa1 r
      exact .inl ⟨a, n, by rw [q1.str_], hn, hl, k.here g (.int _)⟩
    · cases h
theorem ref_tuple {K : PySem.W.Frag} : RefN K (fun xs H Q => ∃ p ys, xs = [.ref p] ∧ ((SqL K H p ys ∧ ∀ l, H l = none → Q (.ref l) (upd H l (.tup ys))) ∨ (SqT K H p ys ∧ Q (.ref p) H))) fTuple := by
  intro G S H xs ds z Q g r h k
  match ds, h with
  | [.lst ys], h =>
    cases h
    obtain ⟨v, rfl, q1⟩ := rpa1 r
    obtain ⟨a, xs, rfl, _, hx, zx, rx'⟩ := q1.lst_
    exact ⟨a, xs, rfl, .inl ⟨SqL.of hx, k.newT g zx rx'⟩⟩
  | [.tup ys], h =>
    cases h
    obtain ⟨v, rfl, q1⟩ := rpa1 r
    obtain ⟨a, xs, rfl, hx, zx, rx'⟩ := q1.tupH_
    exact ⟨a, xs, rfl, .inr ⟨SqT.of hx, k.here g (.tup hx zx rx')⟩⟩
theorem atI_rp {K : PySem.W.Frag} {G : Gh} {H : Hp} {vs : List V} {ds : List D} {i : Int} {d : D} (r : RpA K G H vs ds) (h : atI ds i = some d) : ∃ v, atI vs i = some v ∧ Rp K G H v d := by
  unfold atI at h ⊢
  rw [r.length]
  obtain ⟨j, h1, h2⟩ := bnd h
  obtain ⟨v, h3, h4⟩ := r.get h2
  exact ⟨v, by rw [h1]; exact h3, h4⟩
theorem keyD_rp {K : PySem.W.Frag} {G : Gh} {H : Hp} {v : V} {d : D} {k : Key} (r : Rp K G H v d) (h : keyD d = some k) : v = kV k := by
  cases d with
  | int i => cases h; exact r.int_
  | str x => cases h; exact r.str_
  | _ => cases h
theorem keysD_rp {K : PySem.W.Frag} {G : Gh} {H : Hp} : ∀ {vs : List V} {ds : List D} {ks : List Key}, RpA K G H vs ds → keysD ds = some ks → vs = ks.map kV
  | _, _, _, .nil, h => by cases h; rfl
  | _, d :: ds, ks, .cons r t, h => by
    obtain ⟨k, h1, h⟩ := bnd (show ((keyD d).bind fun k => (keysD ds).map (k :: ·)) = some ks from h)
    obtain ⟨l, h2, rfl⟩ := Option.map_eq_some_iff.mp h
    rw [keyD_rp r h1, keysD_rp t h2]
    rfl
theorem findK_rp {κ : Type} [DecidableEq κ] {K : PySem.W.Frag} {G : Gh} {H : Hp} (k : κ) : ∀ {vs : List (κ × V)} {ds : List (κ × D)} {d : D}, vs.map (·.1) = ds.map (·.1) → RpA K G H (vs.map (·.2)) (ds.map (·.2)) → findK ds k = some d →
    ∃ v, valV vs k = some v ∧ Rp K G H v d
  | [], [], _, _, _, h => by simp [findK] at h
  | [], _ :: _, _, e, _, _ => by simp at e
  | _ :: _, [], _, e, _, _ => by simp at e
  | (k1, v1) :: vs, (k2, d2) :: ds, d, e, r, h => by
    rw [List.map_cons, List.map_cons] at e
    obtain ⟨e1, e2⟩ := List.cons.inj e
    have e1 : k1 = k2 := e1
    subst e1
    cases r with
    | cons r1 t =>
      unfold findK at h
      unfold valV
      rw [List.find?_cons] at h ⊢
      by_cases c : k1 = k
      · simp only [c, decide_true] at h ⊢
        cases h
        exact ⟨v1, rfl, r1⟩
      · simp only [c, decide_false] at h ⊢
        exact findK_rp k e2 t h
def rIxDD : R2 := fun x y H Q => ∃ a v, x = .ref a ∧ DGet H a y (some v) ∧ Q v H
theorem ix_dict (hu : X.A.units + 1 < cLine) : IxR X rIxDD := by
  intro value slice pins s σ H x y v u Q I rx ry h hs
  obtain ⟨a, z, rfl, g, q⟩ := h
  obtain rfl : v = Value.ref a := rx
  exact tail_any (dict_typeIs I g) PySem.F.slot_dict_getitem.lookup (d_getItem hu I g ry fun w' s3 I3 rw' => ⟨z, H, I3, rw', q⟩) hs
abbrev rIxJ (K : PySem.W.Frag) : R2 := fun x y H Q => rIx K x y H Q ∨ rIxDD x y H Q
theorem ix_J (hu : X.A.units + 64 < cLine) : IxR X (rIxJ X.K) := ix_seq.or (ix_dict (by omega))
theorem Rp.gz {K : PySem.W.Frag} {G : Gh} {H : Hp} {v : V} {d : D} (r : Rp K (Gz G.m) H v d) : Rp K G H v d := r.pers Pers.ofGz
theorem ref_ix {K : PySem.W.Frag} : Ref2S K (rIxJ K) dIx := by
  intro G S H x y d e z Q g rx ry h k
  cases d with
  | lst xs => cases e with
    | int i =>
      obtain ⟨a, ys, rfl, _, hx, zx, rx'⟩ := rx.lst_
      obtain ⟨v, h1, h2⟩ := atI_rp rx' h
      exact .inl (.inl ⟨a, ys, i, v, rfl, ry.int_, SqL.of hx, h1, k.here g h2⟩)
    | _ => cases h
  | tup xs => cases e with
    | int i =>
      obtain ⟨a, ys, rfl, hx, zx, rx'⟩ := rx.tup_
      obtain ⟨v, h1, h2⟩ := atI_rp rx' h
      exact .inl (.inr (.inl ⟨a, ys, i, v, rfl, ry.int_, hx, h1, k.here g h2⟩))
    | _ => cases h
  | ct xs => cases e with
    | int i =>
      obtain ⟨a, ys, rfl, hx, zx, rx'⟩ := rx.ct_
      obtain ⟨v, h1, h2⟩ := atI_rp rx' h
      exact .inl (.inr (.inl ⟨a, ys, i, v, rfl, ry.int_, hx, h1, k.here g h2⟩))
    | _ => cases h
  | str w => cases e with
    | int i =>
      have h : (if w.length ≤ sizeLine then (atI w.cps.toList i).map fun c => D.str ⟨#[c]⟩ else none) = some z := h
      split at h
      · rename_i hl
        simp only [Option.map_eq_some_iff] at h
        obtain ⟨c, h1, rfl⟩ := h
        exact .inl (.inr (.inr ⟨w, i, c, rx.str_, ry.int_, hl, h1, k.here g (.str _)⟩))
      · cases h
    | _ => cases h
  | ob n =>
    simp only [dIx] at h
    split at h
    · rename_i xs hc
      obtain ⟨a, rfl, _, vs, e2, zz, r2⟩ := cell_at g rx hc
      split at h
      · rename_i i
        obtain ⟨v, h1, h2⟩ := atI_rp r2 h
        exact .inl (.inl ⟨a, vs, i, v, rfl, ry.int_, SqL.of e2, h1, k.here g h2.gz⟩)
      · cases h
    · rename_i kvs hc
      obtain ⟨a, rfl, _, vs, e2, e3, r2⟩ := cell_at g rx hc
      obtain ⟨kk, h1, h⟩ := bnd h
      obtain ⟨v, h4, h5⟩ := findK_rp kk e3 r2 h
      refine .inr ⟨a, v, rfl, ?_, k.here g h5.gz⟩
      rw [keyD_rp ry h1, ← h4]
      exact DGet.k e2
    · rename_i kvs hc
      obtain ⟨a, rfl, _, vs, e2, e3, r2⟩ := cell_at g rx hc
      split at h
      · rename_i ks
        obtain ⟨kk, h1, h⟩ := bnd h
        obtain ⟨v, h4, h5⟩ := findK_rp kk e3 r2 h
        obtain ⟨b, ys, rfl, hb, _, r3⟩ := ry.tupH_
        rw [keysD_rp r3 h1] at hb
        refine .inr ⟨a, v, rfl, ?_, k.here g h5.gz⟩
        rw [← h4]
        exact DGet.t e2 hb
      · cases h
    · cases h
  | _ => cases h
abbrev rSlJ (K : PySem.W.Frag) : V → Option Int → Option Int → Hp → VK → Prop := fun x lo hi H Q => rSlA K x lo hi H Q ∨ (fun x lo hi H Q => rSlL K x lo hi H Q ∨ rSlS x lo hi H Q) x lo hi H Q
theorem sl_J : SlR X (rSlJ X.K) := sl_tupA.or (sl_list.or sl_str)
theorem ref_slice {K : PySem.W.Frag} : RefS K (rSlJ K) dSlice := by
  intro G S H x d lo hi z Q g rx h k
  cases d with
  | cl xs =>
    cases h
    obtain ⟨a, ys, rfl, hx, zx, rx'⟩ := rx.cl_
    exact .inr (.inl ⟨a, ys, rfl, hx.sq, k.newL g (Nat.le_trans (cutV_length _ _ _) zx) (rx'.cut lo hi)⟩)
  | lst xs =>
    cases h
    obtain ⟨a, ys, rfl, _, hx, zx, rx'⟩ := rx.lst_
    exact .inr (.inl ⟨a, ys, rfl, SqL.of hx, k.newL g (Nat.le_trans (cutV_length _ _ _) zx) (rx'.cut lo hi)⟩)
  | tup xs =>
    cases h
    obtain ⟨a, ys, rfl, hx, zx, rx'⟩ := rx.tupH_
    refine .inl ⟨a, ys, rfl, SqT.of hx, fun e => k.here g ?_, fun _ => k.newT g (Nat.le_trans (cutV_length _ _ _) zx) (rx'.cut lo hi)⟩
    have e2 : cutL xs lo hi = xs := by
      unfold cutL
      rw [← rx'.length, e.1, e.2, rx'.length]
      simp
    rw [e2]
    exact .tup hx zx rx'
  | str w =>
    obtain ⟨h1, rfl⟩ := ifs h
    exact .inr (.inr ⟨w, rx.str_, h1, k.here g (.str _)⟩)
  | _ => cases h
variable {a b : Expr} {ma mb : Env' → M D}
theorem je_join {apos pos : Pos} (ha : JE X a ma) (hb : JE X b mb) (hs : starEach [b] X.env = [(false, eval b X.env)] := by rfl) (hbase : attributeBase a "join" X.env (eval a X.env) = eval a X.env := by rfl) (hline : (apos.endLine == pos.line) = true := by rfl) :
    JE X (.Call (.Attribute a "join" apos) [b] [] pos) (e2 dJoin ma mb) := pe_mono (pe_join ha hb hs hbase hline) fun σ H Q ⟨G, ρ, S, d, S', r, g, e, k⟩ => by
  obtain ⟨⟨d1, S1⟩, e1, e⟩ := bnd e
  obtain ⟨⟨d2, S2⟩, e2, e⟩ := bnd e
  obtain ⟨z, ez, e⟩ := bnd e
  cases e
  refine ⟨G, ρ, S, d1, S1, r, g, e1, fun G1 x H1 x1 g1 r1 => ?_⟩
  cases d1 with
  | str s =>
    refine ⟨⟨s, r1.str_⟩, G1, ρ, S1, d2, S2, r.ext x1 g, g1, e2, fun G2 y H2 x2 g2 r2 => ?_⟩
    cases d2 with
    | lst ys =>
      obtain ⟨zs, h1, h2⟩ := bnd (show ((strsD ys).bind fun ys => if (ys.map (·.length)).sum + ys.length * s.length ≤ 16777216 then some (D.str (Txt.join s ys)) else none) = some d from ez)
      obtain ⟨h3, rfl⟩ := ifs h2
      obtain ⟨p, xs, rfl, _, hx, zx, rx'⟩ := r2.lst_
      rw [strsD_inv h1] at rx'
      rw [rx'.strs] at hx
      exact ⟨s, p, zs, r1.str_, rfl, .inl (SqL.of hx), h3, k G2 _ H2 (x1.trans x2) g2 (.str _)⟩
    | tup ys =>
      obtain ⟨zs, h1, h2⟩ := bnd (show ((strsD ys).bind fun ys => if (ys.map (·.length)).sum + ys.length * s.length ≤ 16777216 then some (D.str (Txt.join s ys)) else none) = some d from ez)
      obtain ⟨h3, rfl⟩ := ifs h2
      obtain ⟨p, xs, rfl, hx, zx, rx'⟩ := r2.tup_
      rw [strsD_inv h1] at rx'
      rw [rx'.strs] at hx
      exact ⟨s, p, zs, r1.str_, rfl, .inr hx, h3, k G2 _ H2 (x1.trans x2) g2 (.str _)⟩
    | _ => cases ez
  | _ => cases ez
theorem je_split {apos pos : Pos} (ha : JE X a ma) (hb : JE X b mb) (hs : starEach [b] X.env = [(false, eval b X.env)] := by rfl) (hbase : attributeBase a "split" X.env (eval a X.env) = eval a X.env := by rfl) (hline : (apos.endLine == pos.line) = true := by rfl) :
    JE X (.Call (.Attribute a "split" apos) [b] [] pos) (e2 dSplit ma mb) := pe_mono (pe_split ha hb hs hbase hline) fun σ H Q ⟨G, ρ, S, d, S', r, g, e, k⟩ => by
  obtain ⟨⟨d1, S1⟩, e1, e⟩ := bnd e
  obtain ⟨⟨d2, S2⟩, e2, e⟩ := bnd e
  obtain ⟨z, ez, e⟩ := bnd e
  cases e
  refine ⟨G, ρ, S, d1, S1, r, g, e1, fun G1 x H1 x1 g1 r1 => ?_⟩
  cases d1 with
  | str s =>
    refine ⟨⟨s, r1.str_⟩, G1, ρ, S1, d2, S2, r.ext x1 g, g1, e2, fun G2 y H2 x2 g2 r2 => ?_⟩
    cases d2 with
    | str t =>
      obtain ⟨⟨h1, h2, h3⟩, rfl⟩ := ifs ez
      refine ⟨s, t, r1.str_, by rw [r2.str_], h1, h2, fun p hp => ?_⟩
      exact k _ _ _ ((x1.trans x2).trans (Ext.newF hp)) (g2.newF hp) (Rp.newLst g2 hp (by rw [List.length_map]; exact h3) (RpA.ofStrs _))
    | _ => cases ez
  | _ => cases ez
end
end J
end
section
set_option Elab.async false
set_option linter.all false
set_option maxRecDepth 100000
set_option maxHeartbeats 4000000
/-! J4: targets, what is walked, comprehensions, calls of own functions. Own work. -/
namespace J
open PySem PySem.Spec PyProof.Rows L2

/-! ### targets -/
inductive Tg where
  | nm (i : Nat) | tp (ts : List Tg)
mutual
def Tg.slots : Tg → List Nat
  | .nm i => [i]
  | .tp ts => Tg.slotsA ts
def Tg.slotsA : List Tg → List Nat
  | [] => []
  | t :: ts => t.slots ++ Tg.slotsA ts
end
mutual
def asgT {α : Type} (inj : D → α) : Tg → D → List (Option α) → Option (List (Option α))
  | .nm i, d, ρ => if i < ρ.length then some (ρ.set i (some (inj d))) else none
  | .tp ts, .tup ds, ρ => asgTs inj ts ds ρ
  | .tp _, _, _ => none
def asgTs {α : Type} (inj : D → α) : List Tg → List D → List (Option α) → Option (List (Option α))
  | [], [], ρ => some ρ
  | t :: ts, d :: ds, ρ => (asgT inj t d ρ).bind fun ρ' => asgTs inj ts ds ρ'
  | _, _, _ => none
end
mutual
def gT (K : PySem.W.Frag) : Tg → TG
  | .nm i => gName i
  | .tp ts => gTup K ts.length (gTs K ts)
def gTs (K : PySem.W.Frag) : List Tg → TGs
  | [] => gNil
  | t :: ts => gCons (gT K t) (gTs K ts)
end
theorem asgTs_len {α : Type} {inj : D → α} : ∀ {ts : List Tg} {ds : List D} {ρ ρ' : List (Option α)}, asgTs inj ts ds ρ = some ρ' → ds.length = ts.length
  | [], [], _, _, _ => rfl
  | t :: ts, d :: ds, ρ, ρ', h => by
    simp only [asgTs] at h
    obtain ⟨ρ1, h1, h2⟩ := bnd h
    rw [List.length_cons, List.length_cons, asgTs_len h2]
  | [], _ :: _, _, _, h => by simp only [asgTs] at h; cases h
  | _ :: _, [], _, _, h => by simp only [asgTs] at h; cases h
section
variable {K : PySem.W.Frag} {G : Gh} {H : Hp} {α : Type} {inj : D → α} {R : L2.St → List (Option α) → Prop}
mutual
theorem gT_ok : ∀ {T : Tg} {v : V} {d : D} {σ : L2.St} {ρ ρ' : List (Option α)} {Q : L2.St → Hp → Prop}, Rp K G H v d → asgT inj T d ρ = some ρ' →
    (∀ i v d σ ρ, i ∈ T.slots → i < ρ.length → Rp K G H v d → R σ ρ → R (σ.set i (some v)) (ρ.set i (some (inj d)))) → R σ ρ → (∀ σ', R σ' ρ' → Q σ' H) → gT K T v σ H Q
  | .nm i, v, d, σ, ρ, ρ', Q, r, h, hs, hr, k => by
    simp only [asgT] at h
    obtain ⟨h1, rfl⟩ := ifs h
    simp only [gT]
    exact k _ (hs i v d σ ρ (by simp [Tg.slots]) h1 r hr)
  | .tp ts, v, .tup ds, σ, ρ, ρ', Q, r, h, hs, hr, k => by
    simp only [asgT] at h
    simp only [gT]
    obtain ⟨a, xs, rfl, h1, _, h2⟩ := r.tup_
    exact ⟨a, xs, rfl, h1, by rw [h2.length]; exact asgTs_len h, gTs_ok h2 h (fun i v d σ ρ hi => hs i v d σ ρ (by simpa [Tg.slots] using hi)) hr k⟩
  | .tp _, _, .non, _, _, _, _, _, h, _, _, _ => by simp only [asgT] at h; cases h
  | .tp _, _, .bl _, _, _, _, _, _, h, _, _, _ => by simp only [asgT] at h; cases h
  | .tp _, _, .int _, _, _, _, _, _, h, _, _, _ => by simp only [asgT] at h; cases h
  | .tp _, _, .str _, _, _, _, _, _, h, _, _, _ => by simp only [asgT] at h; cases h
  | .tp _, _, .lst _, _, _, _, _, _, h, _, _, _ => by simp only [asgT] at h; cases h
  | .tp _, _, .ob _, _, _, _, _, _, h, _, _, _ => by simp only [asgT] at h; cases h
theorem gTs_ok : ∀ {ts : List Tg} {vs : List V} {ds : List D} {σ : L2.St} {ρ ρ' : List (Option α)} {Q : L2.St → Hp → Prop}, RpA K G H vs ds → asgTs inj ts ds ρ = some ρ' →
    (∀ i v d σ ρ, i ∈ Tg.slotsA ts → i < ρ.length → Rp K G H v d → R σ ρ → R (σ.set i (some v)) (ρ.set i (some (inj d)))) → R σ ρ → (∀ σ', R σ' ρ' → Q σ' H) → gTs K ts vs σ H Q
  | [], _, [], σ, ρ, ρ', Q, .nil, h, hs, hr, k => by
    simp only [asgTs] at h
    cases h
    simp only [gTs]
    exact ⟨rfl, k _ hr⟩
  | t :: ts, _, d :: ds, σ, ρ, ρ', Q, .cons r rs, h, hs, hr, k => by
    simp only [asgTs] at h
    obtain ⟨ρ1, h1, h2⟩ := bnd h
    simp only [gTs]
    exact ⟨_, _, rfl, gT_ok r h1 (fun i v d σ ρ hi => hs i v d σ ρ (by simp [Tg.slotsA, hi])) hr fun σ1 hr1 => gTs_ok rs h2 (fun i v d σ ρ hi => hs i v d σ ρ (by simp [Tg.slotsA, hi])) hr1 k⟩
  | [], _, _ :: _, _, _, _, _, _, h, _, _, _ => by simp only [asgTs] at h; cases h
  | _ :: _, _, [], _, _, _, _, _, h, _, _, _ => by simp only [asgTs] at h; cases h
end
end
section
variable {X : Cx} {es : List Expr} {e : Expr} {pos : Pos} {t : Tg} {ts : List Tg}
theorem jg_nm (i : Nat) {x : Str} (hN : X.N.Nodup) (hi : X.N[i]? = some x) (hx : Loc X.env.scope x) (hf : X.fn x = true ∨ X.env.scope.names.lookup x = some .local := by first | exact .inl rfl | exact .inr rfl | assumption) : PG X (.Name x pos) (gT X.K (.nm i)) := by
  simp only [gT]
  exact pg_name hN hi hx hf
theorem jgs_nil : PGs X [] (gTs X.K []) := by
  simp only [gTs]
  exact pgs_nil
theorem jgs_cons (h1 : PG X e (gT X.K t)) (h2 : PGs X es (gTs X.K ts)) (hs : (assignEach (e :: es) X.env).map (·.2) = assign e X.env :: (assignEach es X.env).map (·.2) := by rfl) : PGs X (e :: es) (gTs X.K (t :: ts)) := by
  simp only [gTs]
  exact pgs_cons h1 h2 hs
theorem jg_tp {k : Nat} (hc : X.calm = true) (h : PGs X es (gTs X.K ts)) (hn : (assignEach es X.env).length = ts.length := by rfl) (hst : (assignEach es X.env).findIdx? (·.1) = none := by rfl) : PG X (.Tuple es k pos) (gT X.K (.tp ts)) := by
  simp only [gT]
  exact pg_tup hc h hn hst
end

/-! ### what is walked -/
theorem Pers.new {K : PySem.W.Frag} {G : Gh} {H : Hp} {p : Addr} {o : HO} (hp : H p = none) : Pers K G H G (upd H p o) := by
  refine ⟨fun c xs h => ?_, fun c xs h => by rw [upd_ne (ne_of_none h hp)]; exact h, fun c xs h => ?_, fun c xs f h => ⟨f, by rw [upd_ne (ne_of_none h hp)]; exact h⟩, fun n p h => h⟩
  · rcases h with (h | ⟨o, h⟩) | h
    · exact .inl (.inl (by rw [upd_ne (ne_of_none h hp)]; exact h))
    · exact .inl (.inr ⟨o, by rw [upd_ne (ne_of_none h hp)]; exact h⟩)
    · exact .inr h
  · rcases h with ⟨o, h⟩ | h
    · exact .inl ⟨o, by rw [upd_ne (ne_of_none h hp)]; exact h⟩
    · exact .inr h
/-- the iterator J yields these data, whatever else happens -/
def ItRep (K : PySem.W.Frag) (J : It) (ds : List D) (G0 : Gh) (H0 : Hp) : Prop := ∀ G H, Pers K G0 H0 G H → ∀ i : Nat, (ds.length = i → J.stop i H) ∧ ∀ d, ds[i]? = some d → J.go i H ∧
  ∀ x H', J.yld i H x H' → (H' = H ∨ ∃ T o, H T = none ∧ H' = upd H T o) ∧ Rp K G H' x d
def tI (K : PySem.W.Frag) (it : Env' → M (List D)) : TI := fun σ H R => ∃ G ρ S ds S', RelE K G H σ ρ ∧ Good K G S H ∧ it ρ S = some (ds, S') ∧
  ∀ G' J H', Ext G H G' H' → Good K G' S' H' → ds.length ≤ sizeLine → ItRep K J ds G' H' → R J H'
abbrev JI (X : Cx) (tg e : Expr) (it : Env' → M (List D)) : Prop := PI X tg e (tI X.K it)
section
variable {X : Cx} {tg e a b : Expr} {m ma mb : Env' → M D} {ms : Env' → M (List D)}
theorem pi_mono {t t' : TI} (h : PI X tg e t) (i : ∀ σ H R, t' σ H R → t σ H R) : PI X tg e t' := ⟨fun pins s σ H R I q => h.run pins s σ H R I (i σ H R q)⟩
theorem pi_or {t t' : TI} (h : PI X tg e t) (h' : PI X tg e t') : PI X tg e (fun σ H R => t σ H R ∨ t' σ H R) := ⟨fun pins s σ H R I q => q.elim (h.run pins s σ H R I) (h'.run pins s σ H R I)⟩
theorem itRep_list {K : PySem.W.Frag} {G : Gh} {H : Hp} {a : Addr} {ds : List D} (r : Rp K G H (.ref a) (.lst ds)) : ItRep K (Itl K a) ds G H := fun G1 H1 p i => by
  have r1 := r.pers p
  obtain ⟨b, xs, e, _, h1, _, h2⟩ := r1.lst_
  cases e
  refine ⟨fun hi => ⟨xs, SqL.of h1, by rw [h2.length]; exact Nat.le_of_eq hi⟩, fun d hd => ?_⟩
  obtain ⟨v, h3, h4⟩ := h2.get hd
  refine ⟨⟨xs, v, SqL.of h1, h3⟩, fun x H' hy => ?_⟩
  obtain ⟨rfl, hy⟩ := hy
  have e := hy xs (SqL.of h1)
  rw [h3] at e
  cases e
  exact ⟨.inl rfl, h4⟩
theorem itRep_tupS {K : PySem.W.Frag} {G : Gh} {H : Hp} {a : Addr} {xs : List V} {ds : List D} (h1 : SqT K H a xs) (h2 : RpA K G H xs ds) : ItRep K (Itt K a) ds G H := fun G1 H1 p i => by
  have h1 := p.t _ _ h1
  have h2 := h2.pers p
  refine ⟨fun hi => ⟨xs, h1, by rw [h2.length]; exact Nat.le_of_eq hi⟩, fun d hd => ?_⟩
  obtain ⟨v, h3, h4⟩ := h2.get hd
  refine ⟨⟨xs, v, h1, h3⟩, fun x H' hy => ?_⟩
  obtain ⟨rfl, hy⟩ := hy
  have e := hy xs h1
  rw [h3] at e
  cases e
  exact ⟨.inl rfl, h4⟩
theorem itRep_tup {K : PySem.W.Frag} {G : Gh} {H : Hp} {a : Addr} {ds : List D} (r : Rp K G H (.ref a) (.tup ds)) : ItRep K (Itt K a) ds G H := by
  obtain ⟨b, xs, e, h1, _, h2⟩ := r.tup_
  cases e
  exact itRep_tupS h1 h2
def chars (z : Str) : List D := z.cps.toList.map fun c => .str ⟨#[c]⟩
theorem itRep_str {K : PySem.W.Frag} {G : Gh} {H : Hp} {z : Str} : ItRep K (Its z) (chars z) G H := fun G1 H1 p i => by
  unfold chars
  refine ⟨fun hi => (Nat.le_of_eq (by simpa using hi) : z.cps.size ≤ i), fun d hd => ?_⟩
  simp only [List.getElem?_map, Option.map_eq_some_iff] at hd
  obtain ⟨c, h1, rfl⟩ := hd
  have h2 : z.cps[i]? = some c := by simpa using h1
  refine ⟨(Array.getElem?_eq_some_iff.mp h2).1, fun x H' hy => ?_⟩
  obtain ⟨rfl, c', h3, rfl⟩ := hy
  rw [h2] at h3
  cases h3
  exact ⟨.inl rfl, .str _⟩
def itemsD : D → Option (List D)
  | .lst xs => some xs
  | .tup xs => some xs
  | .ct xs => some xs
  | .str z => if z.length ≤ sizeLine then some (chars z) else none
  | _ => none
def iSeq (m : Env' → M D) : Env' → M (List D) := fun ρ S => (m ρ S).bind fun r => (itemsD r.1).bind fun ds => some (ds, r.2)
theorem ji_seq (h : JE X e m) : JI X tg e (iSeq m) := pi_mono (pi_or (pi_list h) (pi_or (pi_tup h) (pi_str h))) fun σ H R ⟨G, ρ, S, ds, S', r, g, e, k⟩ => by
  obtain ⟨⟨d1, S1⟩, e1, e⟩ := bnd e
  obtain ⟨z, ez, e⟩ := bnd e
  cases e
  cases d1 with
  | lst xs =>
    cases ez
    exact .inl ⟨G, ρ, S, .lst ds, S1, r, g, e1, fun G1 v H1 x1 g1 r1 => by
      obtain ⟨a, ys, rfl, f, h1, hz, h2⟩ := r1.lst_
      exact ⟨a, rfl, ⟨ys, SqL.of h1⟩, k G1 _ H1 x1 g1 (by rw [← h2.length]; exact hz) (itRep_list r1)⟩⟩
  | tup xs =>
    cases ez
    exact .inr (.inl ⟨G, ρ, S, .tup ds, S1, r, g, e1, fun G1 v H1 x1 g1 r1 => by
      obtain ⟨a, ys, rfl, h1, hz, h2⟩ := r1.tup_
      exact ⟨a, rfl, ⟨ys, h1⟩, k G1 _ H1 x1 g1 (by rw [← h2.length]; exact hz) (itRep_tup r1)⟩⟩)
  | ct xs =>
    cases ez
    exact .inr (.inl ⟨G, ρ, S, .ct ds, S1, r, g, e1, fun G1 v H1 x1 g1 r1 => by
      obtain ⟨a, ys, rfl, h1, hz, h2⟩ := r1.ct_
      exact ⟨a, rfl, ⟨ys, h1⟩, k G1 _ H1 x1 g1 (by rw [← h2.length]; exact hz) (itRep_tupS h1 h2)⟩⟩)
  | str z =>
    obtain ⟨h1, rfl⟩ := ifs ez
    exact .inr (.inr ⟨G, ρ, S, .str z, S1, r, g, e1, fun G1 v H1 x1 g1 r1 => ⟨z, r1.str_, k G1 _ H1 x1 g1 (by unfold chars; rw [List.length_map]; exact h1) itRep_str⟩⟩)
  | _ => cases ez
def rangeD (lo : Int) (n : Nat) : List D := (List.range n).map fun i => .int (lo + (i : Nat))
theorem itRep_range {K : PySem.W.Frag} {G : Gh} {H : Hp} {lo : Int} {n : Nat} : ItRep K (Itr lo n) (rangeD lo n) G H := fun G1 H1 p i => by
  unfold rangeD
  refine ⟨fun hi => (Nat.le_of_eq (by simpa using hi) : n ≤ i), fun d hd => ?_⟩
  simp only [List.getElem?_map, Option.map_eq_some_iff] at hd
  obtain ⟨c, h1, rfl⟩ := hd
  obtain ⟨h2, h3⟩ := List.getElem?_eq_some_iff.mp h1
  rw [List.length_range] at h2
  rw [List.getElem_range] at h3
  subst h3
  refine ⟨h2, fun x H' hy => ?_⟩
  obtain ⟨rfl, rfl⟩ := hy
  exact ⟨.inl rfl, .int _⟩
def rgD : List D → Option (List D)
  | [.int j] => if j ≤ sizeLine ∧ -(2 ^ 62) ≤ j then some (rangeD 0 j.toNat) else none
  | _ => none
def iRange (ms : Env' → M (List D)) : Env' → M (List D) := fun ρ S => (ms ρ S).bind fun r => (rgD r.1).bind fun ds => some (ds, r.2)
theorem ji_range {p pos : Pos} (hg : Gl X "range") (hm : X.mg "range" = none) (ha : JA X [a] ms) (hs : starEach [a] X.env = [(false, eval a X.env)] := by rfl) : JI X tg (.Call (.Name "range" p) [a] [] pos) (iRange ms) := pi_mono (pi_range1 hg hm ha hs) fun σ H R ⟨G, ρ, S, ds, S', r, g, e, k⟩ => by
  obtain ⟨⟨d1, S1⟩, e1, e⟩ := bnd e
  obtain ⟨z, ez, e⟩ := bnd e
  cases e
  match d1, e1, ez with
  | [.int j], e1, ez =>
    obtain ⟨⟨h1, h0⟩, rfl⟩ := ifs ez
    refine ⟨G, ρ, S, _, _, r, g, e1, fun G1 v H1 x1 g1 r1 => ?_⟩
    obtain ⟨v, rfl, q1⟩ := rpa1 r1
    have hl : ((2 ^ 24 : Nat) : Int) < 2 ^ 62 := by decide
    have h3 : j ≤ ((2 ^ 24 : Nat) : Int) := h1
    exact ⟨j, by rw [q1.int_], h0, by omega, k G1 _ H1 x1 g1 (by unfold rangeD; rw [List.length_map, List.length_range]; show j.toNat ≤ 2 ^ 24; omega) itRep_range⟩
end

/-! ### comprehensions -/
def wipeE (ρ : Env') : List Nat → Env'
  | [] => ρ
  | v :: vs => (wipeE ρ vs).set v none
theorem wipe_at (σ : L2.St) : ∀ (vs : List Nat) (i : Nat), (wipe σ vs)[i]? = if i ∈ vs then (σ[i]?).map (fun _ => none) else σ[i]?
  | [], i => by simp [wipe]
  | v :: vs, i => by
    unfold wipe
    by_cases h : v = i
    · subst h
      rw [List.getElem?_set]
      simp only [List.mem_cons, true_or, if_true]
      rw [wipe_length]
      by_cases hl : v < σ.length
      · simp [hl]
      · simp [hl]
    · rw [List.getElem?_set_ne h, wipe_at σ vs i]
      have : (i ∈ v :: vs) ↔ i ∈ vs := by
        simp only [List.mem_cons, or_iff_right_iff_imp]
        exact fun e => absurd e.symm h
      simp only [this]
theorem wipe_set {σ : L2.St} {i : Nat} {x : Option V} {vs : List Nat} (h : i ∈ vs) : wipe (σ.set i x) vs = wipe σ vs := by
  apply List.ext_getElem?
  intro j
  rw [wipe_at, wipe_at]
  by_cases e : i = j
  · subst e
    simp only [h, if_true]
    rw [List.getElem?_set]
    simp only [if_true]
    by_cases hl : i < σ.length
    · simp [hl]
    · simp [hl]
  · rw [List.getElem?_set_ne e]
theorem wipe_wipe (σ : L2.St) (vs : List Nat) : wipe (wipe σ vs) vs = wipe σ vs := by
  apply List.ext_getElem?
  intro j
  rw [wipe_at, wipe_at]
  split
  · simp [Option.map_map, Function.comp_def]
  · rfl
theorem wipeE_length (ρ : Env') : ∀ vs : List Nat, (wipeE ρ vs).length = ρ.length
  | [] => rfl
  | v :: vs => by unfold wipeE; rw [List.length_set, wipeE_length ρ vs]
theorem wipeE_some {ρ : Env'} {i : Nat} {x : D} : ∀ {vs : List Nat}, (wipeE ρ vs)[i]? = some (some x) → ρ[i]? = some (some x) ∧ i ∉ vs
  | [], h => ⟨h, by simp⟩
  | v :: vs, h => by
    unfold wipeE at h
    by_cases hi : v = i
    · subst hi
      rw [List.getElem?_set] at h
      simp only [if_true] at h
      split at h <;> cases h
    · rw [List.getElem?_set_ne hi] at h
      obtain ⟨h1, h2⟩ := wipeE_some h
      exact ⟨h1, by simp only [List.mem_cons, not_or]; exact ⟨fun e => hi e.symm, h2⟩⟩
theorem RelE.wipe {K : PySem.W.Frag} {G : Gh} {H : Hp} {σ : L2.St} {ρ : Env'} (r : RelE K G H σ ρ) (vs : List Nat) : RelE K G H (L2.wipe σ vs) (wipeE ρ vs) := by
  refine ⟨by rw [wipeE_length, wipe_length]; exact r.len, fun i d h => ?_⟩
  obtain ⟨h1, h2⟩ := wipeE_some h
  obtain ⟨v, h3, h4⟩ := r.at_ i d h1
  exact ⟨v, by rw [wipe_at, if_neg h2]; exact h3, h4⟩
theorem RelE.set {K : PySem.W.Frag} {G : Gh} {H : Hp} {σ : L2.St} {ρ : Env'} {i : Nat} {v : V} {d : D} (r : RelE K G H σ ρ) (hi : i < ρ.length) (q : Rp K G H v d) : RelE K G H (σ.set i (some v)) (ρ.set i (some d)) := by
  refine ⟨by rw [List.length_set, List.length_set]; exact r.len, fun j e h => ?_⟩
  by_cases hj : i = j
  · subst hj
    rw [List.getElem?_set_self hi] at h
    cases h
    exact ⟨v, by rw [List.getElem?_set_self (by rw [← r.len]; exact hi)], q⟩
  · rw [List.getElem?_set_ne hj] at h ⊢
    exact r.at_ j e h
def oc : Option D → List D → List D
  | some z, l => z :: l
  | none, l => l
def lcGo (f : D → M (Option D)) : List D → M (List D)
  | [], S => some ([], S)
  | d :: ds, S => (f d S).bind fun r => (lcGo f ds r.2).bind fun q => some (oc r.1 q.1, q.2)
def lcEl (vs : List Nat) (T : Tg) (mt : Env' → M Bool) (me : Env' → M D) (ρ : Env') : D → M (Option D) := fun d S =>
  (asgT id T d (wipeE ρ vs)).bind fun ρ1 => (mt ρ1 S).bind fun q => if q.1 = true then (me ρ1 q.2).bind fun z => some (some z.1, z.2) else some (none, q.2)
def fLc (it : Env' → M (List D)) (vs : List Nat) (T : Tg) (mt : Env' → M Bool) (me : Env' → M D) : Env' → M (List D) := fun ρ S => (it ρ S).bind fun r => lcGo (lcEl vs T mt me ρ) r.1 r.2
def tT : Env' → M Bool := fun _ S => some (true, S)
section
variable {K : PySem.W.Frag}
theorem lc_tr {it : Env' → M (List D)} {vs : List Nat} {T : Tg} {mt : Env' → M Bool} {me : Env' → M D} (hT : ∀ i ∈ T.slots, i ∈ vs) {σ : L2.St} {H : Hp} {Q : VK} (h : tF K (fLc it vs T mt me) σ H Q) :
    tLc (tI K it) (gT K T) (tMT K mt) (tM K me) vs σ H Q := by
  obtain ⟨G, ρ, S, zs, S', r, g, e, k⟩ := h
  obtain ⟨⟨ds, S1⟩, e1, e⟩ := bnd e
  refine ⟨G, ρ, S, ds, S1, r, g, e1, fun G1 J H1 x1 g1 hz ir Da hD => ?_⟩
  refine ⟨fun i m Hi => m = ds.length - i ∧ i ≤ ds.length ∧ ∃ Gi Si acc as rest, Ext G1 H1 Gi Hi ∧ Good K Gi Si Hi ∧ ¬ Gi.F Da ∧ ¬ Gi.fp Da ∧ Hi Da = some (.lst acc) ∧ acc.length ≤ i ∧ RpA K Gi Hi acc as ∧
    lcGo (lcEl vs T mt me ρ) (ds.drop i) Si = some (rest, S') ∧ zs = as ++ rest, ⟨ds.length, by simp, Nat.zero_le _, G1, S1, [], [], zs, Ext.new hD, g1.new hD, g1.noF hD, g1.nofp hD, upd_same, Nat.le_refl _, .nil, by simpa using e, rfl⟩, ?_⟩
  rintro i m Hi ⟨rfl, hi, Gi, Si, acc, as, rest, xi, gi, nF, nf, hDa, hl, ra, eg, rfl⟩
  have hpers : Pers K G1 H1 Gi Hi := xi.pers g1
  by_cases hlt : i < ds.length
  · refine .inr ?_
    obtain ⟨d, hd⟩ : ∃ d, ds[i]? = some d := ⟨ds[i], by simp [hlt]⟩
    obtain ⟨hgo, hy⟩ := (ir Gi Hi hpers i).2 d hd
    have edrop : ds.drop i = d :: ds.drop (i + 1) := by
      rw [List.drop_eq_getElem_cons hlt]
      congr 1
      rw [List.getElem?_eq_getElem hlt] at hd
      exact Option.some.inj hd
    rw [edrop] at eg
    simp only [lcGo] at eg
    obtain ⟨⟨o, S2⟩, e2, eg⟩ := bnd eg
    obtain ⟨⟨rest2, S3⟩, e3, eg⟩ := bnd eg
    cases eg
    obtain ⟨ρ1, ea, e2⟩ := bnd e2
    obtain ⟨⟨bq, S4⟩, e4, e2⟩ := bnd e2
    refine ⟨hgo, fun H' => i + 1 ≤ ds.length ∧ ∃ Gj Sj acc' as' rest', Ext G1 H1 Gj H' ∧ Good K Gj Sj H' ∧ ¬ Gj.F Da ∧ ¬ Gj.fp Da ∧ H' Da = some (.lst acc') ∧ acc'.length ≤ i + 1 ∧ RpA K Gj H' acc' as' ∧
      lcGo (lcEl vs T mt me ρ) (ds.drop (i + 1)) Sj = some (rest', S3) ∧ (as ++ oc o rest2) = as' ++ rest', fun H' q => ⟨ds.length - (i + 1), by omega, rfl, q⟩, fun x H' hx => ?_⟩
    obtain ⟨hH, rx⟩ := hy x H' hx
    -- the heap behind the iterator's turn
    have xe : Ext Gi Hi Gi H' ∧ Good K Gi Si H' := by
      rcases hH with rfl | ⟨Ta, ob, hT, rfl⟩
      · exact ⟨Ext.refl, gi⟩
      · exact ⟨Ext.new hT, gi.new hT⟩
    obtain ⟨xi', gi'⟩ := xe
    have hDa' : H' Da = some (.lst acc) := xi'.keep _ _ hDa nf
    have r0 : RelE K Gi H' (wipe σ vs) (wipeE ρ vs) := (((r.ext x1 g).ext xi g1).ext xi' gi).wipe vs
    refine gT_ok (inj := id) (R := fun σ' ρ' => RelE K Gi H' σ' ρ' ∧ wipe σ' vs = wipe σ vs) rx ea (fun j v d σ' ρ' hj hl r' q => ⟨q.1.set hl r', by rw [wipe_set (hT j hj)]; exact q.2⟩) ⟨r0, wipe_wipe σ vs⟩ fun σ2 q2 => ⟨q2.2, ?_⟩
    refine ⟨Gi, ρ1, Si, bq, S4, q2.1, gi', e4, fun G5 H5 x5 g5 => ?_⟩
    have nF5 : ¬ G5.F Da := fun f => (x5.Fn Da f).elim nF fun z => by rw [hDa'] at z; cases z
    have nf5 : ¬ G5.fp Da := fun f => (x5.fn Da f).elim nf fun z => by rw [hDa'] at z; cases z
    have hDa5 : H5 Da = some (.lst acc) := x5.keep _ _ hDa' nf
    cases bq with
    | true =>
      refine iteT ?_
      dsimp only at e2
      rw [if_pos rfl] at e2
      obtain ⟨⟨z, S6⟩, e6, e2⟩ := bnd e2
      cases e2
      refine ⟨G5, ρ1, S4, z, S6, q2.1.ext x5 gi', g5, e6, fun G6 y H6 x6 g6 r6 => ?_⟩
      have nF6 : ¬ G6.F Da := fun f => (x6.Fn Da f).elim nF5 fun z => by rw [hDa5] at z; cases z
      have nf6 : ¬ G6.fp Da := fun f => (x6.fn Da f).elim nf5 fun z => by rw [hDa5] at z; cases z
      have hDa6 : H6 Da = some (.lst acc) := x6.keep _ _ hDa5 nf5
      have hsz : acc.length < sizeLine := Nat.lt_of_le_of_lt hl (Nat.lt_of_lt_of_le hlt hz)
      have pu : Pers K G6 H6 G6 (upd H6 Da (.lst (acc ++ [y]))) := Pers.put (.inr (by rw [hDa6]; exact True.intro)) nF6
      refine ⟨acc, hDa6, hsz, hlt, G6, S6, acc ++ [y], as ++ [z], rest2, ?_, g6.put nf6 (.inr (by rw [hDa6]; exact True.intro)), nF6, nf6, upd_same, by rw [List.length_append, List.length_singleton]; omega, ?_, e3, by simp [oc]⟩
      · have xa := ((xi.trans xi').trans x5).trans x6
        exact ⟨xa.F, xa.Fn, xa.m, xa.fn, fun a o h nfa => by rw [upd_ne (ne_of_none h hD)]; exact xa.keep a o h nfa, fun a h => by
          by_cases e : a = Da
          · subst e; rw [upd_same]; exact fun z => by cases z
          · rw [upd_ne e]; exact xa.there a h⟩
      · exact (((ra.ext xi' gi).ext x5 gi').ext x6 g5 |>.append (.cons r6 .nil)).pers pu
    | false =>
      refine iteF ?_
      dsimp only at e2
      rw [if_neg Bool.false_ne_true] at e2
      cases e2
      exact ⟨hlt, G5, S2, acc, as, rest2, (xi.trans xi').trans x5, g5, nF5, nf5, hDa5, by omega, (ra.ext xi' gi).ext x5 gi', e3, rfl⟩
  · have e0 : i = ds.length := by omega
    subst e0
    refine .inl ⟨(ir Gi Hi hpers _).1 rfl, ?_⟩
    rw [List.drop_length] at eg
    cases eg
    rw [List.append_nil] at k
    exact k Gi Da acc Hi (x1.trans xi) gi (fresh_of x1 hD) nF nf hDa (Nat.le_trans hl hz) ra
end
end J
end
section
set_option Elab.async false
set_option linter.all false
set_option maxRecDepth 100000
set_option maxHeartbeats 4000000
/-! J5: comprehensions and calls as rules; statements. Own work. -/
namespace J
open PySem PySem.Spec PyProof.Rows L2

section
variable {X : Cx} {a b : Expr} {es : List Expr} {ma mb : Env' → M D} {ms : Env' → M (List D)} {mt : Env' → M Bool} {pos : Pos}
theorem jts_nil : PTs X [] (tMT X.K tT) := ⟨fun pins s σ H Q I ⟨G, ρ, S, d, S', r, g, e, k⟩ => pts_nil.run pins s σ H Q I (by cases e; exact k G H Ext.refl g)⟩
theorem jts_one (h : JT X a mt) : PTs X [a] (tMT X.K mt) := pts_one h
theorem jf_lc {elt tg iter : Expr} {ifs : List Expr} {scope : Scope} {own : List (Str × Nat)} {it : Env' → M (List D)} {T : Tg} {mt : Env' → M Bool} {me : Env' → M D} (hc : X.calm = true) (hN : X.N.Nodup) (ok : BlkOk X.N X.env.scope scope own) (hi : JI X tg iter it)
    (hg : ∀ (s : Shared) (H : Hp) (C : Addr) (cl : List (Str × Addr)) (fp : List Addr), PG (X.blk s H scope (compEnvC scope cl C X.env) fp) tg (gT X.K T)) (ht : ∀ (s : Shared) (H : Hp) (C : Addr) (cl : List (Str × Addr)) (fp : List Addr), PTs (X.blk s H scope (compEnvC scope cl C X.env) fp) ifs (tMT X.K mt))
    (he : ∀ (s : Shared) (H : Hp) (C : Addr) (cl : List (Str × Addr)) (fp : List Addr), PE (X.blk s H scope (compEnvC scope cl C X.env) fp) elt (tM X.K me)) (hT : ∀ i ∈ T.slots, i ∈ own.map (·.2)) (hs : ∀ x, foldedSetIterable iter X.env x = pure x := by intro _; rfl) :
    JF X (.ListComp elt [⟨tg, iter, ifs, 0⟩] scope pos) (fLc it (own.map (·.2)) T mt me) := pe_mono (pe_lc hc hN hi ok hg ht he hs) fun σ H Q h => lc_tr hT h

/-! ### calls of own functions -/
def spF (K : PySem.W.Frag) (f : List D → M D) : Sp := fun vs H Q _ => ∃ G S ds d S', Good K G S H ∧ RpA K G H vs ds ∧ f ds S = some (d, S') ∧ ∀ G' v H', Ext G H G' H' → Good K G' S' H' → Rp K G' H' v d → Q v H'
theorem je_call {k : Nat} {f : Addr} {fd : FuncData} {ps : List Str} {fn : List D → M D} {x : Str} {p : Pos} (F : FnOk X.prog X.w X.K X.mg X.base CX0 k f fd ps (spF X.K fn)) (hr : Room k X.A) (hg : Gl X x) (hm : X.mg x = some (.ref f)) (hk : PySem.W.keepIn X.K (.ref f) = true) (hb : Binds X.K fd ps [])
    (ha : JA X (a :: es) ms) (hdb : (x == ("__debug__" : Str)) = false := by decide) (he : starEach (a :: es) X.env = (false, eval a X.env) :: starEach es X.env := by rfl) (hpl : (backTo pos (starEach es X.env)).any (·.1) = false := by rfl) :
    JE X (.Call (.Name x p) (a :: es) [] pos) (eF fn ms) := pe_mono (pe_call (E := E0) F hr hg hm hk hb .nil pass0 ha hdb he hpl) fun σ H Q ⟨G, ρ, S, d, S', r, g, e, k⟩ => by
  obtain ⟨⟨d1, S1⟩, e1, e⟩ := bnd e
  exact ⟨G, ρ, S, d1, S1, r, g, e1, fun G1 vs H1 x1 g1 r1 => ⟨G1, S1, d1, d, S', g1, by rw [List.append_nil]; exact r1, e, fun G2 v H2 x2 g2 r2 => k G2 v H2 (x1.trans x2) g2 r2⟩⟩
/-- with defaults -/
theorem je_calld {k : Nat} {f : Addr} {fd : FuncData} {ps : List Str} {fn : List D → M D} {x : Str} {p : Pos} {dvs : List V} {ds : List Value} (dd : List D) (F : FnOk X.prog X.w X.K X.mg X.base CX0 k f fd ps (spF X.K fn)) (hr : Room k X.A) (hg : Gl X x) (hm : X.mg x = some (.ref f)) (hk : PySem.W.keepIn X.K (.ref f) = true) (hb : Binds X.K fd ps ds) (hd : Vals dvs ds)
    (hdd : ∀ G H, RpA X.K G H dvs dd) (ha : JA X (a :: es) ms) (hdb : (x == ("__debug__" : Str)) = false := by decide) (he : starEach (a :: es) X.env = (false, eval a X.env) :: starEach es X.env := by rfl) (hpl : (backTo pos (starEach es X.env)).any (·.1) = false := by rfl) :
    JE X (.Call (.Name x p) (a :: es) [] pos) (eF (fun l => fn (l ++ dd)) ms) := pe_mono (pe_call (E := E0) F hr hg hm hk hb hd pass0 ha hdb he hpl) fun σ H Q ⟨G, ρ, S, d, S', r, g, e, k⟩ => by
  obtain ⟨⟨d1, S1⟩, e1, e⟩ := bnd e
  exact ⟨G, ρ, S, d1, S1, r, g, e1, fun G1 vs H1 x1 g1 r1 => ⟨G1, S1, d1 ++ dd, d, S', g1, r1.append (hdd _ _), e, fun G2 v H2 x2 g2 r2 => k G2 v H2 (x1.trans x2) g2 r2⟩⟩
/-- keywords alone, every parameter in order -/
theorem pe_callK0 {CX : CXT} {k : Nat} {f : Addr} {fd : FuncData} {ps : List Str} {sp : Sp} {E : XK} {x : Str} {p : Pos} {kws : List Keyword} {tk : TA} (F : FnOk X.prog X.w X.K X.mg X.base CX k f fd ps sp) (hr : Room k X.A) (hg : Gl X x) (hm : X.mg x = some (.ref f)) (hk : PySem.W.keepIn X.K (.ref f) = true)
    (hb : ∀ (s : Shared) (ws : List Value), ws.length = ps.length → BindsTo s fd ⟨[], ps.zip ws⟩ (ps.zip ws)) (hx : Passes CX X E)
    (hkw : PK X kws tk) (hall : (backToKw pos (keywordEach kws X.env)).all (·.1.isSome) = true := by rfl) (hks : (backToKw pos (keywordEach kws X.env)).filterMap (·.1) = ps := by rfl) (hdb : (x == ("__debug__" : Str)) = false := by decide)
    (hpl : ((backTo pos (starEach [] X.env)).any (·.1) || (backToKw pos (keywordEach kws X.env)).any (·.1.isNone)) = false := by rfl) :
    PE X (.Call (.Name x p) [] kws pos) (fun σ H Q => tk σ H fun zs H2 => sp zs H2 Q E) := by
  refine ⟨fun pins s σ H Q I h => ?_⟩
  refine wpAny_Call_Name_kw (ld_glob I hg hm ?_ hdb)
  refine PySem.W.callWith_KW0 (h₀ := X.base) I.ok.mod.kin hk hall (thn (hkw.run pos pins s σ H _ I h) fun ws s1 ⟨zs, H1, I1, rz, q⟩ => ⟨I1.kIn, ?_⟩) hpl
  rw [hks]
  have hl : ws.length = ps.length := by rw [← rz.length]; exact F.len _ _ _ _ q
  refine wpAny_call (codeAny_mono (F.run X.A X.stack s1 H1 ⟨[] ++ [], ps.zip ws⟩ ws zs Q E hr I1.env0 (hb s1 ws hl) rz q) fun r s' hq => ?_)
  cases r with
  | error e => exact hx pins σ H1 s1 e s' I1 hq
  | ok fl =>
    cases fl with
    | ret u => exact I1.after hq
    | next => exact False.elim hq
    | brk => exact False.elim hq
    | cont => exact False.elim hq
abbrev JK (X : Cx) (kws : List Keyword) (m : Env' → M (List D)) : Prop := PK X kws (tMA X.K m)
theorem pk_mono {kws : List Keyword} {t t' : TA} (h : PK X kws t) (i : ∀ σ H Q, t' σ H Q → t σ H Q) : PK X kws t' := ⟨fun pos pins s σ H Q I q => h.run pos pins s σ H Q I (i σ H Q q)⟩
theorem jk_nil : JK X [] aNil := pk_mono pk_nil fun σ H Q ⟨G, ρ, S, d, S', r, g, e, k⟩ => by
  cases e
  exact k G [] H Ext.refl g .nil
theorem jk_cons {kws : List Keyword} {nm : Option Str} {kpos : Pos} (ha : JE X a ma) (hr : JK X kws ms) : JK X (⟨nm, a, kpos⟩ :: kws) (aCons ma ms) := pk_mono (pk_cons ha hr) fun σ H Q ⟨G, ρ, S, d, S', r, g, e, k⟩ => by
  obtain ⟨⟨d1, S1⟩, e1, e⟩ := bnd e
  obtain ⟨⟨d2, S2⟩, e2, e⟩ := bnd e
  cases e
  exact ⟨G, ρ, S, d1, S1, r, g, e1, fun G1 v H1 x1 g1 r1 => ⟨G1, ρ, S1, d2, S2, r.ext x1 g, g1, e2, fun G2 vs H2 x2 g2 r2 => k G2 _ H2 (x1.trans x2) g2 (.cons (r1.ext x2 g1) r2)⟩⟩
theorem je_callK {k : Nat} {f : Addr} {fd : FuncData} {ps : List Str} {fn : List D → M D} {x : Str} {p : Pos} {kws : List Keyword} (F : FnOk X.prog X.w X.K X.mg X.base CX0 k f fd ps (spF X.K fn)) (hr : Room k X.A) (hg : Gl X x) (hm : X.mg x = some (.ref f)) (hk : PySem.W.keepIn X.K (.ref f) = true)
    (hb : ∀ (s : Shared) (ws : List Value), ws.length = ps.length → BindsTo s fd ⟨[], ps.zip ws⟩ (ps.zip ws)) (ha : JK X kws ms) (hall : (backToKw pos (keywordEach kws X.env)).all (·.1.isSome) = true := by rfl) (hks : (backToKw pos (keywordEach kws X.env)).filterMap (·.1) = ps := by rfl) (hdb : (x == ("__debug__" : Str)) = false := by decide)
    (hpl : ((backTo pos (starEach [] X.env)).any (·.1) || (backToKw pos (keywordEach kws X.env)).any (·.1.isNone)) = false := by rfl) :
    JE X (.Call (.Name x p) [] kws pos) (eF fn ms) := pe_mono (pe_callK0 (E := E0) F hr hg hm hk hb pass0 ha hall hks hdb hpl) fun σ H Q ⟨G, ρ, S, d, S', r, g, e, k⟩ => by
  obtain ⟨⟨d1, S1⟩, e1, e⟩ := bnd e
  exact ⟨G, ρ, S, d1, S1, r, g, e1, fun G1 vs H1 x1 g1 r1 => ⟨G1, S1, d1, d, S', g1, r1, e, fun G2 v H2 x2 g2 r2 => k G2 v H2 (x1.trans x2) g2 r2⟩⟩
end

/-! ### statements -/
/-- a local: data, or a list that this code alone holds -/
inductive LV where
  | val (d : D) | own (ds : List D)
abbrev LEnv := List (Option LV)
def LV.d : LV → D
  | .val d => d
  | .own ds => .lst ds
def LV.v : LV → Option D
  | .val d => some d
  | .own _ => none
def vis (ρ : LEnv) : Env' := ρ.map fun o => o.bind LV.v
def fz (ρ : LEnv) : Env' := ρ.map fun o => o.map LV.d
def kill (ρ : LEnv) : LEnv := ρ.map fun o => o.map fun l => .val l.d
inductive Fl where
  | nx | brk | cnt | ret (d : D)
abbrev SM := LEnv → M (Fl × LEnv)

structure RelS (K : PySem.W.Frag) (G0 : Gh) (H0 : Hp) (G : Gh) (H : Hp) (σ : L2.St) (ρ : LEnv) : Prop where
  ex : Ext G0 H0 G H
  len : ρ.length = σ.length
  at_ : ∀ (i : Nat) (d : D), ρ[i]? = some (some (.val d)) → ∃ v, σ[i]? = some (some v) ∧ Rp K G H v d
  own : ∀ (i : Nat) (ds : List D), ρ[i]? = some (some (.own ds)) → ∃ a xs, σ[i]? = some (some (.ref a)) ∧ H0 a = none ∧ ¬ G.F a ∧ ¬ G.fp a ∧ H a = some (.lst xs) ∧ xs.length ≤ sizeLine ∧ RpA K G H xs ds
  nd : ∀ (i j : Nat) (ds es : List D) (a : Addr), ρ[i]? = some (some (.own ds)) → ρ[j]? = some (some (.own es)) → σ[i]? = some (some (.ref a)) → σ[j]? = some (some (.ref a)) → i = j
/-- the lists that this code alone holds -/
def ownP (σ : L2.St) (ρ : LEnv) (a : Addr) : Prop := ∃ (i : Nat) (ds : List D), ρ[i]? = some (some (.own ds)) ∧ σ[i]? = some (some (.ref a))
section
variable {K : PySem.W.Frag} {G0 G G' G1 : Gh} {S S' S1 : Sto} {H0 H H' H1 : Hp} {σ σ' : L2.St} {ρ ρ' : LEnv}
theorem vis_at {i : Nat} {d : D} (h : (vis ρ)[i]? = some (some d)) : ρ[i]? = some (some (.val d)) := by
  unfold vis at h
  rw [List.getElem?_map] at h
  obtain ⟨o, h1, h2⟩ := Option.map_eq_some_iff.mp h
  rw [h1]
  cases o with
  | none => cases h2
  | some l =>
    cases l with
    | val e => cases h2; rfl
    | own e => cases h2
theorem fz_at {i : Nat} {d : D} (h : (fz ρ)[i]? = some (some d)) : ρ[i]? = some (some (.val d)) ∨ ∃ ds, ρ[i]? = some (some (.own ds)) ∧ d = .lst ds := by
  unfold fz at h
  rw [List.getElem?_map] at h
  obtain ⟨o, h1, h2⟩ := Option.map_eq_some_iff.mp h
  rw [h1]
  cases o with
  | none => cases h2
  | some l =>
    cases l with
    | val e => cases h2; exact .inl rfl
    | own e => cases h2; exact .inr ⟨e, rfl, rfl⟩
theorem kill_val {i : Nat} {d : D} (h : (kill ρ)[i]? = some (some (.val d))) : ρ[i]? = some (some (.val d)) ∨ ∃ ds, ρ[i]? = some (some (.own ds)) ∧ d = .lst ds := by
  unfold kill at h
  rw [List.getElem?_map] at h
  obtain ⟨o, h1, h2⟩ := Option.map_eq_some_iff.mp h
  rw [h1]
  cases o with
  | none => cases h2
  | some l =>
    cases l with
    | val e => cases h2; exact .inl rfl
    | own e => cases h2; exact .inr ⟨e, rfl, rfl⟩
theorem kill_own {i : Nat} {ds : List D} (h : (kill ρ)[i]? = some (some (.own ds))) : False := by
  unfold kill at h
  rw [List.getElem?_map] at h
  obtain ⟨o, h1, h2⟩ := Option.map_eq_some_iff.mp h
  cases o with
  | none => cases h2
  | some l => cases h2
theorem RelS.vis (r : RelS K G0 H0 G H σ ρ) : RelE K G H σ (J.vis ρ) := ⟨by unfold J.vis; rw [List.length_map]; exact r.len, fun i d h => r.at_ i d (vis_at h)⟩
theorem ownP_at (r : RelS K G0 H0 G H σ ρ) {a : Addr} (h : ownP σ ρ a) : H0 a = none ∧ ¬ G.F a ∧ ¬ G.fp a ∧ ∃ xs, H a = some (.lst xs) := by
  obtain ⟨i, ds, h1, h2⟩ := h
  obtain ⟨b, xs, h3, h4, h5, h6, h7, _⟩ := r.own i ds h1
  rw [h2] at h3
  cases h3
  exact ⟨h4, h5, h6, xs, h7⟩
theorem RelS.goodP (r : RelS K G0 H0 G H σ ρ) (g : Good K G S H) : Good K (G.more (ownP σ ρ)) S H := g.more fun a h => by
  obtain ⟨_, _, h3, xs, h4⟩ := ownP_at r h
  exact ⟨by rw [h4]; exact fun z => (by cases z), h3⟩
theorem RelS.fz (r : RelS K G0 H0 G H σ ρ) : RelE K (G.more (ownP σ ρ)) H σ (J.fz ρ) := by
  refine ⟨by unfold J.fz; rw [List.length_map]; exact r.len, fun i d h => ?_⟩
  rcases fz_at h with h | ⟨ds, hq, rfl⟩
  · obtain ⟨v, h1, h2⟩ := r.at_ i d h
    exact ⟨v, h1, h2.pers Pers.more⟩
  · obtain ⟨a, xs, h1, _, _, _, h2, h3, h4⟩ := r.own i ds hq
    exact ⟨.ref a, h1, .lst (.inr ⟨i, ds, hq, h1⟩) h2 h3 (h4.pers Pers.more)⟩
/-- behind an expression that sees the data alone -/
theorem RelS.ext (r : RelS K G0 H0 G H σ ρ) (g : Good K G S H) (x : Ext G H G1 H1) : RelS K G0 H0 G1 H1 σ ρ := by
  refine ⟨r.ex.trans x, r.len, fun i d h => ?_, fun i ds h => ?_, r.nd⟩
  · obtain ⟨v, h1, h2⟩ := r.at_ i d h
    exact ⟨v, h1, h2.ext x g⟩
  · obtain ⟨a, xs, h1, h2, h3, h4, h5, h6, h7⟩ := r.own i ds h
    exact ⟨a, xs, h1, h2, fun f => (x.Fn a f).elim h3 fun z => (by rw [h5] at z; cases z), fun f => (x.fn a f).elim h4 fun z => (by rw [h5] at z; cases z), x.keep a _ h5 h4, h6, h7.ext x g⟩
/-- the lists given back -/
def Gh.less (G : Gh) (P : Addr → Prop) : Gh := ⟨fun a => G.F a ∧ ¬ P a, G.m⟩
/-- behind an expression that sees the lists too -/
theorem RelS.back (r : RelS K G0 H0 G H σ ρ) (g : Good K G S H) (x : Ext (G.more (ownP σ ρ)) H G1 H1) (g1 : Good K G1 S1 H1) :
    RelS K G0 H0 (G1.less (ownP σ ρ)) H1 σ ρ ∧ Good K (G1.less (ownP σ ρ)) S1 H1 ∧ Pers K G H (G1.less (ownP σ ρ)) H1 := by
  have x' : Ext G H (G1.less (ownP σ ρ)) H1 := ⟨fun a f => ⟨x.F a (.inl f), fun z => (ownP_at r z).2.1 f⟩, fun a f => by
    rcases x.Fn a f.1 with h | h
    · rcases h with h | h
      · exact .inl h
      · exact absurd h f.2
    · exact .inr h, x.m, x.fn, x.keep, x.there⟩
  exact ⟨r.ext g x', ⟨fun a f => g1.F0 a f.1, g1.len, g1.cell, g1.mt, g1.nd⟩, x'.pers g⟩
/-- the lists are data from here on -/
theorem RelS.kill (r : RelS K G0 H0 G H σ ρ) : RelS K G0 H0 (G.more (ownP σ ρ)) H σ (J.kill ρ) := by
  refine ⟨⟨fun a f => .inl (r.ex.F a f), fun a f => f.elim (r.ex.Fn a) fun z => .inr (ownP_at r z).1, r.ex.m, r.ex.fn, r.ex.keep, r.ex.there⟩, by unfold J.kill; rw [List.length_map]; exact r.len, fun i d h => ?_, fun i ds h => (kill_own h).elim, fun i j ds es a h => (kill_own h).elim⟩
  rcases kill_val h with h | ⟨ds, hq, rfl⟩
  · obtain ⟨v, h1, h2⟩ := r.at_ i d h
    exact ⟨v, h1, h2.pers Pers.more⟩
  · obtain ⟨a, xs, h1, _, _, _, h2, h3, h4⟩ := r.own i ds hq
    exact ⟨.ref a, h1, .lst (.inr ⟨i, ds, hq, h1⟩) h2 h3 (h4.pers Pers.more)⟩
theorem set_at {α : Type} {l : List (Option α)} {i j : Nat} {x y : α} (h : (l.set i (some x))[j]? = some (some y)) : (i = j ∧ i < l.length ∧ x = y) ∨ (i ≠ j ∧ l[j]? = some (some y)) := by
  by_cases e : i = j
  · subst e
    rw [List.getElem?_set] at h
    simp only [if_true] at h
    split at h
    · rename_i hl
      cases h
      exact .inl ⟨rfl, hl, rfl⟩
    · cases h
  · rw [List.getElem?_set_ne e] at h
    exact .inr ⟨e, h⟩
theorem RelS.set (r : RelS K G0 H0 G H σ ρ) {i : Nat} {v : V} {d : D} (q : Rp K G H v d) : RelS K G0 H0 G H (σ.set i (some v)) (ρ.set i (some (.val d))) := by
  refine ⟨r.ex, by rw [List.length_set, List.length_set]; exact r.len, fun j e h => ?_, fun j ds h => ?_, fun j k ds es a h1 h2 h3 h4 => ?_⟩
  · rcases set_at h with ⟨rfl, hl, h⟩ | ⟨ne, h⟩
    · cases h
      exact ⟨v, by rw [List.getElem?_set_self (by rw [← r.len]; exact hl)], q⟩
    · rw [List.getElem?_set_ne ne]
      exact r.at_ j e h
  · rcases set_at h with ⟨_, _, h⟩ | ⟨ne, h⟩
    · cases h
    · rw [List.getElem?_set_ne ne]
      exact r.own j ds h
  · rcases set_at h1 with ⟨_, _, h⟩ | ⟨ne, h1⟩
    · cases h
    · rcases set_at h2 with ⟨_, _, h⟩ | ⟨ne2, h2⟩
      · cases h
      · rw [List.getElem?_set_ne ne] at h3
        rw [List.getElem?_set_ne ne2] at h4
        exact r.nd j k ds es a h1 h2 h3 h4
/-- a new list of one's own -/
theorem RelS.setOwn (r : RelS K G0 H0 G H σ ρ) {i : Nat} {p : Addr} {xs : List V} {ds : List D} (hp0 : H0 p = none) (hno : ∀ (j : Nat) (es : List D), ρ[j]? = some (some (.own es)) → σ[j]? ≠ some (some (.ref p))) (nF : ¬ G.F p) (nf : ¬ G.fp p) (e : H p = some (.lst xs)) (hz : xs.length ≤ sizeLine) (q : RpA K G H xs ds) :
    RelS K G0 H0 G H (σ.set i (some (.ref p))) (ρ.set i (some (.own ds))) := by
  refine ⟨r.ex, by rw [List.length_set, List.length_set]; exact r.len, fun j e h => ?_, fun j es h => ?_, fun j k es fs a h1 h2 h3 h4 => ?_⟩
  · rcases set_at h with ⟨_, hl, h⟩ | ⟨ne, h⟩
    · cases h
    · rw [List.getElem?_set_ne ne]
      exact r.at_ j e h
  · rcases set_at h with ⟨rfl, hl, h⟩ | ⟨ne, h⟩
    · cases h
      exact ⟨p, xs, by rw [List.getElem?_set_self (by rw [← r.len]; exact hl)], hp0, nF, nf, e, hz, q⟩
    · rw [List.getElem?_set_ne ne]
      exact r.own j es h
  · rcases set_at h1 with ⟨rfl, hl, h⟩ | ⟨ne, h1⟩
    · rcases set_at h2 with ⟨rfl, _, h⟩ | ⟨ne2, h2⟩
      · rfl
      · rw [List.getElem?_set_self (by rw [← r.len]; exact hl)] at h3
        cases h3
        rw [List.getElem?_set_ne ne2] at h4
        exact absurd h4 (hno k fs h2)
    · rcases set_at h2 with ⟨rfl, hl, h⟩ | ⟨ne2, h2⟩
      · rw [List.getElem?_set_self (by rw [← r.len]; exact hl)] at h4
        cases h4
        rw [List.getElem?_set_ne ne] at h3
        exact absurd h3 (hno j es h1)
      · rw [List.getElem?_set_ne ne] at h3
        rw [List.getElem?_set_ne ne2] at h4
        exact r.nd j k es fs a h1 h2 h3 h4
/-- a list of one's own is changed -/
theorem RelS.turn (r : RelS K G0 H0 G H σ ρ) (g : Good K G S H) {i : Nat} {a : Addr} {ds es : List D} {ys : List V} (h : ρ[i]? = some (some (.own ds))) (ha : σ[i]? = some (some (.ref a))) (hz : ys.length ≤ sizeLine) (q : RpA K G H ys es) :
    RelS K G0 H0 G (upd H a (.lst ys)) σ (ρ.set i (some (.own es))) ∧ Good K G S (upd H a (.lst ys)) ∧ Pers K G H G (upd H a (.lst ys)) := by
  obtain ⟨b, xs, h1, h2, h3, h4, h5, h6, h7⟩ := r.own i ds h
  rw [ha] at h1
  cases h1
  have mu : Mut (H a) := by rw [h5]; exact True.intro
  have p : Pers K G H G (upd H a (.lst ys)) := Pers.put (.inr mu) h3
  refine ⟨⟨⟨r.ex.F, r.ex.Fn, r.ex.m, r.ex.fn, fun c o h nf => by rw [upd_ne (show c ≠ a from fun e => by rw [e, h2] at h; cases h)]; exact r.ex.keep c o h nf, fun c h => ?_⟩, by rw [List.length_set]; exact r.len, fun j e hj => ?_, fun j fs hj => ?_, fun j k fs gs c h8 h9 h10 h11 => ?_⟩, g.put h4 (.inr mu), p⟩
  · by_cases e : c = a
    · subst e; rw [upd_same]; exact fun z => by cases z
    · rw [upd_ne e]; exact r.ex.there c h
  · rcases set_at hj with ⟨_, _, hj⟩ | ⟨ne, hj⟩
    · cases hj
    · obtain ⟨v, h8, h9⟩ := r.at_ j e hj
      exact ⟨v, h8, h9.pers p⟩
  · rcases set_at hj with ⟨rfl, _, hj⟩ | ⟨ne, hj⟩
    · cases hj
      exact ⟨a, ys, ha, h2, h3, h4, upd_same, hz, q.pers p⟩
    · obtain ⟨c, zs, h8, h9, h10, h11, h12, h13, h14⟩ := r.own j fs hj
      have nc : c ≠ a := fun e => by
        subst e
        exact ne (r.nd i j ds fs c h hj ha h8)
      exact ⟨c, zs, h8, h9, h10, h11, by rw [upd_ne nc]; exact h12, h13, h14.pers p⟩
  · have old : ∀ {j : Nat} {fs : List D}, (ρ.set i (some (.own es)))[j]? = some (some (.own fs)) → ∃ gs, ρ[j]? = some (some (.own gs)) := fun {j fs} hj => by
      rcases set_at hj with ⟨rfl, _, _⟩ | ⟨_, hj⟩
      · exact ⟨ds, h⟩
      · exact ⟨fs, hj⟩
    obtain ⟨_, o1⟩ := old h8
    obtain ⟨_, o2⟩ := old h9
    exact r.nd j k _ _ c o1 o2 h10 h11
theorem RelS.pers (r : RelS K G0 H0 G H σ ρ) {p : Addr} {o : HO} (hp : H p = none) : RelS K G0 H0 G (upd H p o) σ ρ := by
  have q : Pers K G H G (upd H p o) := Pers.new hp
  refine ⟨r.ex.trans (Ext.new hp), r.len, fun i d h => ?_, fun i ds h => ?_, r.nd⟩
  · obtain ⟨v, h1, h2⟩ := r.at_ i d h
    exact ⟨v, h1, h2.pers q⟩
  · obtain ⟨a, xs, h1, h2, h3, h4, h5, h6, h7⟩ := r.own i ds h
    exact ⟨a, xs, h1, h2, h3, h4, by rw [upd_ne (ne_of_none h5 hp)]; exact h5, h6, h7.pers q⟩
end

/-- what is due behind a statement -/
def Post (K : PySem.W.Frag) (G0 : Gh) (H0 : Hp) (D : Ends) (ρ : LEnv) (G : Gh) (H : Hp) : Fl → Prop
  | .nx => ∀ σ, RelS K G0 H0 G H σ ρ → D.nx σ H
  | .brk => ∀ σ, RelS K G0 H0 G H σ ρ → D.bk σ H
  | .cnt => ∀ σ, RelS K G0 H0 G H σ ρ → D.ct σ H
  | .ret d => ∀ v, Ext G0 H0 G H → Rp K G H v d → D.rt v H
def tS (K : PySem.W.Frag) (m : SM) : TS := fun D σ H => ∃ G0 H0 G ρ S fl ρ' S', RelS K G0 H0 G H σ ρ ∧ Good K G S H ∧ m ρ S = some ((fl, ρ'), S') ∧ ∀ G' H', Good K G' S' H' → Pers K G H G' H' → Post K G0 H0 D ρ' G' H' fl
abbrev JS (X : Cx) (st : Stmt) (m : SM) : Prop := PS X st (tS X.K m)
abbrev JSs (X : Cx) (sts : List Stmt) (m : SM) : Prop := PSs X sts (tS X.K m)
end J
end
section
set_option Elab.async false
set_option linter.all false
set_option maxRecDepth 100000
set_option maxHeartbeats 4000000
/-! J6: rules of statements, loops, defs. Own work. -/
namespace J
open PySem PySem.Spec PyProof.Rows L2

/-! ### mirrors -/
def sNop : SM := fun ρ S => some ((.nx, ρ), S)
def sNever : SM := fun _ _ => none
def sSeq (m1 m2 : SM) : SM := fun ρ S => (m1 ρ S).bind fun r => match r.1.1 with
  | .nx => m2 r.1.2 r.2
  | _ => some r
def putV (i : Nat) (l : LV) (ρ : LEnv) (S : Sto) : Option ((Fl × LEnv) × Sto) := if i < ρ.length then some ((.nx, ρ.set i (some l)), S) else none
def sSet (i : Nat) (m : Env' → M D) : SM := fun ρ S => (m (vis ρ) S).bind fun r => putV i (.val r.1) ρ r.2
abbrev flatD : D → Bool := pureD
def sSetF (i : Nat) (m : Env' → M D) : SM := fun ρ S => (m (fz ρ) S).bind fun r => if flatD r.1 = true then putV i (.val r.1) ρ r.2 else none
def sOwn (i : Nat) (m : Env' → M (List D)) : SM := fun ρ S => (m (vis ρ) S).bind fun r => putV i (.own r.1) ρ r.2
def sDrop (m : Env' → M D) : SM := fun ρ S => (m (vis ρ) S).bind fun r => some ((.nx, ρ), r.2)
def put2 (i j : Nat) (l k : LV) (ρ : LEnv) (S : Sto) : Option ((Fl × LEnv) × Sto) := if i < ρ.length ∧ j < ρ.length then some ((.nx, (ρ.set i (some l)).set j (some k)), S) else none
def sPar (i j : Nat) (a b : Env' → M D) : SM := fun ρ S => (a (vis ρ) S).bind fun r => (b (vis ρ) r.2).bind fun q => put2 i j (.val r.1) (.val q.1) ρ q.2
def sParF (i j : Nat) (a b : Env' → M D) : SM := fun ρ S => (a (fz ρ) S).bind fun r => (b (fz ρ) r.2).bind fun q => if flatD r.1 = true ∧ flatD q.1 = true then put2 i j (.val r.1) (.val q.1) ρ q.2 else none
def sParVO (i j : Nat) (a : Env' → M D) (b : Env' → M (List D)) : SM := fun ρ S => (a (vis ρ) S).bind fun r => (b (vis ρ) r.2).bind fun q => put2 i j (.val r.1) (.own q.1) ρ q.2
def sParOO (i j : Nat) (a : Env' → M (List D)) (b : Env' → M (List D)) : SM := fun ρ S => (a (vis ρ) S).bind fun r => (b (vis ρ) r.2).bind fun q => put2 i j (.own r.1) (.own q.1) ρ q.2
def sAsg (T : Tg) (m : Env' → M D) : SM := fun ρ S => (m (vis ρ) S).bind fun r => (asgT LV.val T r.1 ρ).bind fun ρ' => some ((.nx, ρ'), r.2)
def ownAt (i : Nat) (ρ : LEnv) : Option (List D) := match ρ[i]? with
  | some (some (.own ds)) => some ds
  | _ => none
def sApp (i : Nat) (m : Env' → M D) : SM := fun ρ S => (m (vis ρ) S).bind fun r => (ownAt i ρ).bind fun ds => if ds.length < sizeLine then putV i (.own (ds ++ [r.1])) ρ r.2 else none
def sAppF (i : Nat) (m : Env' → M D) : SM := fun ρ S => (m (fz ρ) S).bind fun r => (ownAt i ρ).bind fun ds => if flatD r.1 = true ∧ ds.length < sizeLine then putV i (.own (ds ++ [r.1])) ρ r.2 else none
def sExt (i : Nat) (m : Env' → M D) : SM := fun ρ S => (m (vis ρ) S).bind fun r => (ownAt i ρ).bind fun ds => match r.1 with
  | .lst es => if ds.length + es.length ≤ sizeLine then putV i (.own (ds ++ es)) ρ r.2 else none
  | _ => none
def sIf (t : Env' → M Bool) (m1 m2 : SM) : SM := fun ρ S => (t (vis ρ) S).bind fun r => if r.1 = true then m1 ρ r.2 else m2 ρ r.2
def sIfF (t : Env' → M Bool) (m1 m2 : SM) : SM := fun ρ S => (t (fz ρ) S).bind fun r => if r.1 = true then m1 ρ r.2 else m2 ρ r.2
def sRet (m : Env' → M D) : SM := fun ρ S => (m (fz ρ) S).bind fun r => some ((.ret r.1, kill ρ), r.2)
def sRetN : SM := fun ρ S => some ((.ret .non, ρ), S)
def sBrk : SM := fun ρ S => some ((.brk, ρ), S)
def sCnt : SM := fun ρ S => some ((.cnt, ρ), S)
def sKill (m : SM) : SM := fun ρ S => m (kill ρ) S
def sAug (i : Nat) (f : D → D → Option D) (m : Env' → M D) : SM := fun ρ S => match ρ[i]? with
  | some (some (.val d)) => (m (vis ρ) S).bind fun r => (f d r.1).bind fun z => putV i (.val z) ρ r.2
  | _ => none
def sForGo (T : Tg) (mb : SM) : List D → SM
  | [], ρ, S => some ((.nx, ρ), S)
  | d :: ds, ρ, S => (asgT LV.val T d ρ).bind fun ρ1 => (mb ρ1 S).bind fun r => match r.1.1 with
    | .nx => sForGo T mb ds r.1.2 r.2
    | .cnt => sForGo T mb ds r.1.2 r.2
    | .brk => some ((.nx, r.1.2), r.2)
    | .ret d => some ((.ret d, r.1.2), r.2)
def sFor (it : Env' → M (List D)) (T : Tg) (mb : SM) : SM := fun ρ S => (it (vis ρ) S).bind fun r => sForGo T mb r.1 ρ r.2
def sWhile (t : Env' → M Bool) (mb : SM) : Nat → SM
  | 0, _, _ => none
  | n + 1, ρ, S => (t (fz ρ) S).bind fun q => if q.1 = true then (mb ρ q.2).bind fun r => match r.1.1 with
      | .nx => sWhile t mb n r.1.2 r.2
      | .cnt => sWhile t mb n r.1.2 r.2
      | .brk => some ((.nx, r.1.2), r.2)
      | .ret d => some ((.ret d, r.1.2), r.2)
    else some ((.nx, ρ), q.2)
def runDef (n k : Nat) (m : SM) : List D → M D := fun ds S => if ds.length = k then (m (ds.map (fun d => some (.val d)) ++ List.replicate (n - k) none) S).bind fun r => match r.1.1 with
    | .ret d => some (d, r.2)
    | .nx => some (.non, r.2)
    | _ => none
  else none

/-! ### rules -/
theorem Rp.flatP {K : PySem.W.Frag} {G G' : Gh} {H : Hp} {v : V} {d : D} (r : Rp K G H v d) (f : flatD d = true) (e : G'.m = G.m) : Rp K G' H v d := by
  have q := r.pure f
  rw [← e] at q
  exact q.pers Pers.ofGz
section
variable {X : Cx} {a b : Expr} {st : Stmt} {sts : List Stmt} {ma mb : Env' → M D} {mf mg : Env' → M (List D)} {mt : Env' → M Bool} {m m1 m2 : SM} {pos : Pos}
theorem jss_nil : JSs X [] sNop := pss_mono pss_nil fun D σ H ⟨G0, H0, G, ρ, S, fl, ρ', S', r, g, e, k⟩ => by
  cases e
  exact k G H g Pers.refl σ r
theorem js_pass : JS X (.Pass pos) sNop := ps_mono ps_pass fun D σ H ⟨G0, H0, G, ρ, S, fl, ρ', S', r, g, e, k⟩ => by
  cases e
  exact k G H g Pers.refl σ r
theorem js_brk : JS X (.Break pos) sBrk := ps_mono ps_break fun D σ H ⟨G0, H0, G, ρ, S, fl, ρ', S', r, g, e, k⟩ => by
  cases e
  exact k G H g Pers.refl σ r
theorem js_cnt : JS X (.Continue pos) sCnt := ps_mono ps_continue fun D σ H ⟨G0, H0, G, ρ, S, fl, ρ', S', r, g, e, k⟩ => by
  cases e
  exact k G H g Pers.refl σ r
theorem js_never : JS X st sNever := ps_mono ps_never fun D σ H ⟨G0, H0, G, ρ, S, fl, ρ', S', r, g, e, k⟩ => by cases e
theorem jss_never : JSs X sts sNever := pss_mono pss_never fun D σ H ⟨G0, H0, G, ρ, S, fl, ρ', S', r, g, e, k⟩ => by cases e
theorem jss_one (h : JS X st m) : JSs X [st] m := pss_one h
theorem Post.imp {K : PySem.W.Frag} {G0 G : Gh} {H0 H : Hp} {D D' : Ends} {ρ : LEnv} {fl : Fl} (h : Post K G0 H0 D ρ G H fl) (h1 : ∀ σ, fl = .nx → D.nx σ H → D'.nx σ H) (h2 : ∀ σ, fl = .brk → D.bk σ H → D'.bk σ H) (h3 : ∀ σ, fl = .cnt → D.ct σ H → D'.ct σ H) (h4 : ∀ v d, fl = .ret d → D.rt v H → D'.rt v H) : Post K G0 H0 D' ρ G H fl := by
  cases fl with
  | nx => exact fun σ r => h1 σ rfl (h σ r)
  | brk => exact fun σ r => h2 σ rfl (h σ r)
  | cnt => exact fun σ r => h3 σ rfl (h σ r)
  | ret d => exact fun v x r => h4 v d rfl (h v x r)
theorem jss_cons (h1 : JS X st m1) (h2 : JSs X sts m2) : JSs X (st :: sts) (sSeq m1 m2) := pss_mono (pss_cons h1 h2) fun D σ H ⟨G0, H0, G, ρ, S, fl, ρ', S', r, g, e, k⟩ => by
  obtain ⟨⟨⟨f1, ρ1⟩, S1⟩, e1, e⟩ := bnd e
  refine ⟨G0, H0, G, ρ, S, f1, ρ1, S1, r, g, e1, fun G1 H1 g1 p1 => ?_⟩
  cases f1 with
  | nx => exact fun σ1 r1 => ⟨G0, H0, G1, ρ1, S1, fl, ρ', S', r1, g1, e, fun G2 H2 g2 p2 => k G2 H2 g2 (p1.trans p2)⟩
  | brk => cases e; exact fun σ1 r1 => k G1 H1 g1 p1 σ1 r1
  | cnt => cases e; exact fun σ1 r1 => k G1 H1 g1 p1 σ1 r1
  | ret d => cases e; exact fun v x1 r1 => k G1 H1 g1 p1 v x1 r1
theorem putV_inv {i : Nat} {l : LV} {ρ : LEnv} {S S' : Sto} {fl : Fl} {ρ' : LEnv} (e : putV i l ρ S = some ((fl, ρ'), S')) : i < ρ.length ∧ fl = .nx ∧ ρ' = ρ.set i (some l) ∧ S' = S := by
  unfold putV at e
  obtain ⟨h, e⟩ := ifs e
  cases e
  exact ⟨h, rfl, rfl, rfl⟩
theorem put2_inv {i j : Nat} {l k : LV} {ρ : LEnv} {S S' : Sto} {fl : Fl} {ρ' : LEnv} (e : put2 i j l k ρ S = some ((fl, ρ'), S')) : fl = .nx ∧ ρ' = (ρ.set i (some l)).set j (some k) ∧ S' = S := by
  unfold put2 at e
  obtain ⟨h, e⟩ := ifs e
  cases e
  exact ⟨rfl, rfl, rfl⟩
/-- name = value, by any target -/
theorem tr_set {i : Nat} {D : Ends} {σ : L2.St} {H : Hp} {K : PySem.W.Frag} (h : tS K (sSet i ma) D σ H) : tAsg (tM K ma) (gName i) D σ H := by
  obtain ⟨G0, H0, G, ρ, S, fl, ρ', S', r, g, e, k⟩ := h
  obtain ⟨⟨d1, S1⟩, e1, e⟩ := bnd e
  obtain ⟨hi, rfl, rfl, rfl⟩ := putV_inv e
  exact ⟨G, vis ρ, S, d1, _, r.vis, g, e1, fun G1 v H1 x1 g1 r1 => k G1 H1 g1 (x1.pers g) _ ((r.ext g x1).set r1)⟩
theorem js_set (i : Nat) {x : Str} {pos' : Pos} (hN : X.N.Nodup) (hi : X.N[i]? = some x) (hx : Loc X.env.scope x) (he : JE X a ma) (hs : swapsWith a (some (.Name x pos')) pos.line X.env = pure false := by rfl) (hf : X.fn x = true ∨ X.env.scope.names.lookup x = some .local := by first | exact .inl rfl | exact .inr rfl | assumption) :
    JS X (.Assign [.Name x pos'] a pos) (sSet i ma) := ps_mono (ps_set hN hi hx he hs hf) fun D σ H h => tr_set h
theorem js_setF (i : Nat) {x : Str} {pos' : Pos} (hN : X.N.Nodup) (hi : X.N[i]? = some x) (hx : Loc X.env.scope x) (he : JE X a ma) (hs : swapsWith a (some (.Name x pos')) pos.line X.env = pure false := by rfl) (hf : X.fn x = true ∨ X.env.scope.names.lookup x = some .local := by first | exact .inl rfl | exact .inr rfl | assumption) :
    JS X (.Assign [.Name x pos'] a pos) (sSetF i ma) := ps_mono (ps_set hN hi hx he hs hf) fun D σ H h => by
  obtain ⟨G0, H0, G, ρ, S, fl, ρ', S', r, g, e, k⟩ := h
  obtain ⟨⟨d1, S1⟩, e1, e⟩ := bnd e
  dsimp only at e
  split at e
  · rename_i hfl
    obtain ⟨hi, rfl, rfl, rfl⟩ := putV_inv e
    refine ⟨_, fz ρ, S, d1, _, r.fz, r.goodP g, e1, fun G1 v H1 x1 g1 r1 => ?_⟩
    obtain ⟨r2, g2, p2⟩ := r.back g x1 g1
    exact k _ H1 g2 p2 _ (r2.set (r1.flatP hfl rfl))
  · cases e
theorem own_ne {K : PySem.W.Frag} {G0 G : Gh} {H0 H : Hp} {σ : L2.St} {ρ : LEnv} (r : RelS K G0 H0 G H σ ρ) {p : Addr} (hp : H p = none) : ∀ (j : Nat) (es : List D), ρ[j]? = some (some (.own es)) → σ[j]? ≠ some (some (.ref p)) := fun j es h z => by
  obtain ⟨a, xs, h1, _, _, _, h5, _⟩ := r.own j es h
  rw [h1] at z
  cases z
  rw [hp] at h5
  cases h5
theorem fresh0 {K : PySem.W.Frag} {G0 G : Gh} {H0 H : Hp} {σ : L2.St} {ρ : LEnv} (r : RelS K G0 H0 G H σ ρ) {p : Addr} (hp : H p = none) : H0 p = none := fresh_of r.ex hp
theorem tr_own {i : Nat} {D : Ends} {σ : L2.St} {H : Hp} {K : PySem.W.Frag} (h : tS K (sOwn i mf) D σ H) : tAsg (tF K mf) (gName i) D σ H := by
  obtain ⟨G0, H0, G, ρ, S, fl, ρ', S', r, g, e, k⟩ := h
  obtain ⟨⟨d1, S1⟩, e1, e⟩ := bnd e
  obtain ⟨hi, rfl, rfl, rfl⟩ := putV_inv e
  exact ⟨G, vis ρ, S, d1, _, r.vis, g, e1, fun G1 p xs H1 x1 g1 hp nF nf e2 hz r1 => k G1 H1 g1 (x1.pers g) _ ((r.ext g x1).setOwn (fresh0 r hp) (own_ne r hp) nF nf e2 hz r1)⟩
theorem js_own (i : Nat) {x : Str} {pos' : Pos} (hN : X.N.Nodup) (hi : X.N[i]? = some x) (hx : Loc X.env.scope x) (he : JF X a mf) (hs : swapsWith a (some (.Name x pos')) pos.line X.env = pure false := by rfl) (hf : X.fn x = true ∨ X.env.scope.names.lookup x = some .local := by first | exact .inl rfl | exact .inr rfl | assumption) :
    JS X (.Assign [.Name x pos'] a pos) (sOwn i mf) := ps_mono (ps_set hN hi hx he hs hf) fun D σ H h => tr_own h
/-- name = a comprehension -/
theorem js_setLc (i : Nat) {y : Str} {py : Pos} {elt tg iter : Expr} {ifs : List Expr} {scope : Scope} {own : List (Str × Nat)} {spos : Pos} {it : Env' → M (List D)} {T : Tg} {me : Env' → M D} (hc : X.calm = true) (hN : X.N.Nodup) (hy : X.N[i]? = some y) (hyl : X.env.scope.names.lookup y = some .local)
    (hsw : swapsWith (.ListComp elt [⟨tg, iter, ifs, 0⟩] scope pos) (some (.Name y py)) spos.line X.env = pure true) (ok : BlkOk X.N X.env.scope scope own) (hi : JI X tg iter it)
    (hg : ∀ (s : Shared) (H : Hp) (C : Addr) (cl : List (Str × Addr)) (fp : List Addr), PG (X.blk s H scope (compEnvC scope cl C X.env) fp) tg (gT X.K T)) (ht : ∀ (s : Shared) (H : Hp) (C : Addr) (cl : List (Str × Addr)) (fp : List Addr), PTs (X.blk s H scope (compEnvC scope cl C X.env) fp) ifs (tMT X.K mt))
    (he : ∀ (s : Shared) (H : Hp) (C : Addr) (cl : List (Str × Addr)) (fp : List Addr), PE (X.blk s H scope (compEnvC scope cl C X.env) fp) elt (tM X.K me)) (hT : ∀ i ∈ T.slots, i ∈ own.map (·.2)) (hs : ∀ x, foldedSetIterable iter X.env x = pure x := by intro _; rfl) :
    JS X (.Assign [.Name y py] (.ListComp elt [⟨tg, iter, ifs, 0⟩] scope pos) spos) (sSet i (eL (fLc it (own.map (·.2)) T mt me))) := ps_mono (ps_setLc hc hN hy hyl hsw hi ok hg ht he hs) fun D σ H h => by
  obtain ⟨G, ρ, S, d, S', r, g, e, k⟩ := tr_set h
  obtain ⟨⟨d1, S1⟩, e1, e⟩ := bnd e
  cases e
  exact lc_tr hT ⟨G, ρ, S, d1, S1, r, g, e1, fun G' p xs H' x1 g1 hp nF nf e hz r => Kq.of_new (show Kq X.K G S1 H (.lst d1) _ from k) G' p xs H' x1 g1 hp nF nf e hz r⟩
theorem js_ownLc (i : Nat) {y : Str} {py : Pos} {elt tg iter : Expr} {ifs : List Expr} {scope : Scope} {own : List (Str × Nat)} {spos : Pos} {it : Env' → M (List D)} {T : Tg} {me : Env' → M D} (hc : X.calm = true) (hN : X.N.Nodup) (hy : X.N[i]? = some y) (hyl : X.env.scope.names.lookup y = some .local)
    (hsw : swapsWith (.ListComp elt [⟨tg, iter, ifs, 0⟩] scope pos) (some (.Name y py)) spos.line X.env = pure true) (ok : BlkOk X.N X.env.scope scope own) (hi : JI X tg iter it)
    (hg : ∀ (s : Shared) (H : Hp) (C : Addr) (cl : List (Str × Addr)) (fp : List Addr), PG (X.blk s H scope (compEnvC scope cl C X.env) fp) tg (gT X.K T)) (ht : ∀ (s : Shared) (H : Hp) (C : Addr) (cl : List (Str × Addr)) (fp : List Addr), PTs (X.blk s H scope (compEnvC scope cl C X.env) fp) ifs (tMT X.K mt))
    (he : ∀ (s : Shared) (H : Hp) (C : Addr) (cl : List (Str × Addr)) (fp : List Addr), PE (X.blk s H scope (compEnvC scope cl C X.env) fp) elt (tM X.K me)) (hT : ∀ i ∈ T.slots, i ∈ own.map (·.2)) (hs : ∀ x, foldedSetIterable iter X.env x = pure x := by intro _; rfl) :
    JS X (.Assign [.Name y py] (.ListComp elt [⟨tg, iter, ifs, 0⟩] scope pos) spos) (sOwn i (fLc it (own.map (·.2)) T mt me)) := ps_mono (ps_setLc hc hN hy hyl hsw hi ok hg ht he hs) fun D σ H h => lc_tr hT (tr_own h)
theorem js_drop (he : JE X a ma) (hs : swapsWith a none pos.line X.env = pure false := by rfl) : JS X (.Expr a pos) (sDrop ma) := ps_mono (ps_expr he hs) fun D σ H h => by
  obtain ⟨G0, H0, G, ρ, S, fl, ρ', S', r, g, e, k⟩ := h
  obtain ⟨⟨d1, S1⟩, e1, e⟩ := bnd e
  cases e
  exact ⟨G, vis ρ, S, d1, _, r.vis, g, e1, fun G1 v H1 x1 g1 r1 => k G1 H1 g1 (x1.pers g) _ (r.ext g x1)⟩
/-- a, b = x, y -/
theorem js_par (i j : Nat) {x y : Str} {px py pt : Pos} {kt k2 pt2} (hc : X.calm = true) (hN : X.N.Nodup) (hi : X.N[i]? = some x) (hj : X.N[j]? = some y) (hij : i ≠ j)
    (hx : X.env.scope.names.lookup x = some .local) (hy : X.env.scope.names.lookup y = some .local) (ha : JE X a ma) (hb : JE X b mb)
    (hw : swappedStores [.Tuple [.Name x px, .Name y py] kt pt] (.Tuple [a, b] k2 pt2) X.env = pure (some [x, y]))
    (hs : swapsWithSole [.Tuple [.Name x px, .Name y py] kt pt] (.Tuple [a, b] k2 pt2) pos.line X.env = pure false := by rfl)
    (h1 : starEach [a, b] X.env = (false, eval a X.env) :: starEach [b] X.env := by rfl) (h2 : starEach [b] X.env = (false, eval b X.env) :: starEach [] X.env := by rfl) :
    JS X (.Assign [.Tuple [.Name x px, .Name y py] kt pt] (.Tuple [a, b] k2 pt2) pos) (sPar i j ma mb) := ps_mono (ps_par hc hN hi hj hij hx hy (pa_cons ha (pa_cons hb pa_nil h2) h1) hw hs) fun D σ H h => by
  obtain ⟨G0, H0, G, ρ, S, fl, ρ', S', r, g, e, k⟩ := h
  obtain ⟨⟨d1, S1⟩, e1, e⟩ := bnd e
  obtain ⟨⟨d2, S2⟩, e2, e⟩ := bnd e
  obtain ⟨rfl, rfl, rfl⟩ := put2_inv e
  exact ⟨G, vis ρ, S, d1, S1, r.vis, g, e1, fun G1 v H1 x1 g1 r1 => ⟨G1, vis ρ, S1, d2, _, (r.ext g x1).vis, g1, e2, fun G2 w H2 x2 g2 r2 => ⟨v, w, rfl, k G2 H2 g2 ((x1.trans x2).pers g) _ (((r.ext g (x1.trans x2)).set (r1.ext x2 g1)).set r2)⟩⟩⟩
theorem js_parF (i j : Nat) {x y : Str} {px py pt : Pos} {kt k2 pt2} (hc : X.calm = true) (hN : X.N.Nodup) (hi : X.N[i]? = some x) (hj : X.N[j]? = some y) (hij : i ≠ j)
    (hx : X.env.scope.names.lookup x = some .local) (hy : X.env.scope.names.lookup y = some .local) (ha : JE X a ma) (hb : JE X b mb)
    (hw : swappedStores [.Tuple [.Name x px, .Name y py] kt pt] (.Tuple [a, b] k2 pt2) X.env = pure (some [x, y]))
    (hs : swapsWithSole [.Tuple [.Name x px, .Name y py] kt pt] (.Tuple [a, b] k2 pt2) pos.line X.env = pure false := by rfl)
    (h1 : starEach [a, b] X.env = (false, eval a X.env) :: starEach [b] X.env := by rfl) (h2 : starEach [b] X.env = (false, eval b X.env) :: starEach [] X.env := by rfl) :
    JS X (.Assign [.Tuple [.Name x px, .Name y py] kt pt] (.Tuple [a, b] k2 pt2) pos) (sParF i j ma mb) := ps_mono (ps_par hc hN hi hj hij hx hy (pa_cons ha (pa_cons hb pa_nil h2) h1) hw hs) fun D σ H h => by
  obtain ⟨G0, H0, G, ρ, S, fl, ρ', S', r, g, e, k⟩ := h
  obtain ⟨⟨d1, S1⟩, e1, e⟩ := bnd e
  obtain ⟨⟨d2, S2⟩, e2, e⟩ := bnd e
  dsimp only at e
  split at e
  · rename_i hfl
    obtain ⟨rfl, rfl, rfl⟩ := put2_inv e
    refine ⟨_, fz ρ, S, d1, S1, r.fz, r.goodP g, e1, fun G1 v H1 x1 g1 r1 => ⟨G1, fz ρ, S1, d2, _, r.fz.ext x1 (r.goodP g), g1, e2, fun G2 w H2 x2 g2 r2 => ⟨v, w, rfl, ?_⟩⟩⟩
    obtain ⟨r3, g3, p3⟩ := r.back g (x1.trans x2) g2
    exact k _ H2 g3 p3 _ ((r3.set ((r1.ext x2 g1).flatP hfl.1 rfl)).set (r2.flatP hfl.2 rfl))
  · cases e
theorem js_parVO (i j : Nat) {x y : Str} {px py pt : Pos} {kt k2 pt2} (hc : X.calm = true) (hN : X.N.Nodup) (hi : X.N[i]? = some x) (hj : X.N[j]? = some y) (hij : i ≠ j)
    (hx : X.env.scope.names.lookup x = some .local) (hy : X.env.scope.names.lookup y = some .local) (ha : JE X a ma) (hb : JF X b mg)
    (hw : swappedStores [.Tuple [.Name x px, .Name y py] kt pt] (.Tuple [a, b] k2 pt2) X.env = pure (some [x, y]))
    (hs : swapsWithSole [.Tuple [.Name x px, .Name y py] kt pt] (.Tuple [a, b] k2 pt2) pos.line X.env = pure false := by rfl)
    (h1 : starEach [a, b] X.env = (false, eval a X.env) :: starEach [b] X.env := by rfl) (h2 : starEach [b] X.env = (false, eval b X.env) :: starEach [] X.env := by rfl) :
    JS X (.Assign [.Tuple [.Name x px, .Name y py] kt pt] (.Tuple [a, b] k2 pt2) pos) (sParVO i j ma mg) := ps_mono (ps_par hc hN hi hj hij hx hy (pa_cons ha (pa_cons hb pa_nil h2) h1) hw hs) fun D σ H h => by
  obtain ⟨G0, H0, G, ρ, S, fl, ρ', S', r, g, e, k⟩ := h
  obtain ⟨⟨d1, S1⟩, e1, e⟩ := bnd e
  obtain ⟨⟨d2, S2⟩, e2, e⟩ := bnd e
  obtain ⟨rfl, rfl, rfl⟩ := put2_inv e
  refine ⟨G, vis ρ, S, d1, S1, r.vis, g, e1, fun G1 v H1 x1 g1 r1 => ⟨G1, vis ρ, S1, d2, _, (r.ext g x1).vis, g1, e2, fun G2 p xs H2 x2 g2 hp nF nf e3 hz r2 => ⟨v, .ref p, rfl, k G2 H2 g2 ((x1.trans x2).pers g) _ ?_⟩⟩⟩
  have rr := ((r.ext g x1).set r1 (i := i)).ext g1 x2
  exact rr.setOwn (fresh0 (r.ext g x1) hp) (own_ne ((r.ext g x1).set r1 (i := i)) hp) nF nf e3 hz r2
theorem js_parOO (i j : Nat) {x y : Str} {px py pt : Pos} {kt k2 pt2} (hc : X.calm = true) (hN : X.N.Nodup) (hi : X.N[i]? = some x) (hj : X.N[j]? = some y) (hij : i ≠ j)
    (hx : X.env.scope.names.lookup x = some .local) (hy : X.env.scope.names.lookup y = some .local) (ha : JF X a mf) (hb : JF X b mg)
    (hw : swappedStores [.Tuple [.Name x px, .Name y py] kt pt] (.Tuple [a, b] k2 pt2) X.env = pure (some [x, y]))
    (hs : swapsWithSole [.Tuple [.Name x px, .Name y py] kt pt] (.Tuple [a, b] k2 pt2) pos.line X.env = pure false := by rfl)
    (h1 : starEach [a, b] X.env = (false, eval a X.env) :: starEach [b] X.env := by rfl) (h2 : starEach [b] X.env = (false, eval b X.env) :: starEach [] X.env := by rfl) :
    JS X (.Assign [.Tuple [.Name x px, .Name y py] kt pt] (.Tuple [a, b] k2 pt2) pos) (sParOO i j mf mg) := ps_mono (ps_par hc hN hi hj hij hx hy (pa_cons ha (pa_cons hb pa_nil h2) h1) hw hs) fun D σ H h => by
  obtain ⟨G0, H0, G, ρ, S, fl, ρ', S', r, g, e, k⟩ := h
  obtain ⟨⟨d1, S1⟩, e1, e⟩ := bnd e
  obtain ⟨⟨d2, S2⟩, e2, e⟩ := bnd e
  obtain ⟨rfl, rfl, rfl⟩ := put2_inv e
  refine ⟨G, vis ρ, S, d1, S1, r.vis, g, e1, fun G1 q ys H1 x1 g1 hq nFq nfq eq hzq r1 => ⟨G1, vis ρ, S1, d2, _, (r.ext g x1).vis, g1, e2, fun G2 p xs H2 x2 g2 hp nF nf e3 hz r2 => ⟨.ref q, .ref p, rfl, k G2 H2 g2 ((x1.trans x2).pers g) _ ?_⟩⟩⟩
  have r1' := (r.ext g x1).setOwn (i := i) (fresh0 r hq) (own_ne r hq) nFq nfq eq hzq r1
  exact (r1'.ext g1 x2).setOwn (fresh0 r1' hp) (own_ne r1' hp) nF nf e3 hz r2
theorem js_asg {T : Tg} {tg : Expr} (he : JE X a ma) (hg : PG X tg (gT X.K T)) (hs : swapsWithSole [tg] a pos.line X.env = pure false := by rfl) (hw : swappedStores [tg] a X.env = pure none := by rfl)
    (h1 : (assignEach [tg] X.env).map (·.2) = [assign tg X.env] := by rfl) : JS X (.Assign [tg] a pos) (sAsg T ma) := ps_mono (ps_asg he hg hs hw h1) fun D σ H h => by
  obtain ⟨G0, H0, G, ρ, S, fl, ρ', S', r, g, e, k⟩ := h
  obtain ⟨⟨d1, S1⟩, e1, e⟩ := bnd e
  obtain ⟨ρ1, e2, e⟩ := bnd e
  cases e
  refine ⟨G, vis ρ, S, d1, _, r.vis, g, e1, fun G1 v H1 x1 g1 r1 => ?_⟩
  exact gT_ok (inj := LV.val) (R := fun σ' ρ' => RelS X.K G0 H0 G1 H1 σ' ρ') r1 e2 (fun i v d σ ρ _ _ q rr => rr.set q) (r.ext g x1) fun σ' r' => k G1 H1 g1 (x1.pers g) _ r'
theorem ownAt_inv {i : Nat} {ρ : LEnv} {ds : List D} (e : ownAt i ρ = some ds) : ρ[i]? = some (some (.own ds)) := by
  unfold ownAt at e
  split at e
  · rename_i h; cases e; exact h
  · cases e
/-- xs.append(e) -/
theorem js_app (i : Nat) {x : Str} {px apos cpos : Pos} (hN : X.N[i]? = some x) (hv : Vis X.env.scope x) (he : JE X a ma)
    (hd : (x == ("__debug__" : Str)) = false := by decide) (hcd : (x == ("__classdict__" : Str)) = false := by decide)
    (pe : ∀ {t : TE}, PE X a t → PE X (.Call (.Attribute (.Name x px) "append" apos) [a] [] cpos) (tBM X.K "list" rAppend (tVar i) (tCons t tNil)) := by intro t h; exact pe_bm PySem.F.plainAttrs_list PySem.F.slot_list_append PySem.F.type_list_append mt_append (pe_var (by rfl) (by first | exact Or.inl rfl | exact Or.inr (Or.inl rfl) | exact Or.inr (Or.inr rfl))) (pa_cons h pa_nil))
    (hs : swapsWith (.Call (.Attribute (.Name x px) "append" apos) [a] [] cpos) none pos.line X.env = pure false := by rfl) :
    JS X (.Expr (.Call (.Attribute (.Name x px) "append" apos) [a] [] cpos) pos) (sApp i ma) := ps_mono (ps_expr (pe he) hs) fun D σ H h => by
  obtain ⟨G0, H0, G, ρ, S, fl, ρ', S', r, g, e, k⟩ := h
  obtain ⟨⟨d1, S1⟩, e1, e⟩ := bnd e
  obtain ⟨ds, e2, e⟩ := bnd e
  dsimp only at e
  split at e
  · rename_i hl
    obtain ⟨hi, rfl, rfl, rfl⟩ := putV_inv e
    have ho := ownAt_inv e2
    obtain ⟨p, xs, h1, h2, h3, h4, h5, h6, h7⟩ := r.own i ds ho
    refine ⟨.ref p, h1, .inl ⟨rfl, xs, SqL.of h5⟩, G, vis ρ, S, d1, _, r.vis, g, e1, fun G1 v H1 x1 g1 r1 => ?_⟩
    have r2 := r.ext g x1
    have h5' := x1.keep p _ h5 h4
    have hlx : xs.length < sizeLine := by rw [h7.length]; exact hl
    refine ⟨p, xs, v, rfl, rfl, h5', hlx, ?_⟩
    obtain ⟨r3, g3, p3⟩ := r2.turn g1 (i := i) (a := p) (ds := ds) (es := ds ++ [d1]) (ys := xs ++ [v]) ho h1 (by rw [List.length_append, List.length_singleton]; omega) ((h7.ext x1 g).append (.cons r1 .nil))
    exact k G1 _ g3 ((x1.pers g).trans p3) _ r3
  · cases e
theorem js_appF (i : Nat) {x : Str} {px apos cpos : Pos} (hN : X.N[i]? = some x) (hv : Vis X.env.scope x) (he : JE X a ma)
    (hd : (x == ("__debug__" : Str)) = false := by decide) (hcd : (x == ("__classdict__" : Str)) = false := by decide)
    (pe : ∀ {t : TE}, PE X a t → PE X (.Call (.Attribute (.Name x px) "append" apos) [a] [] cpos) (tBM X.K "list" rAppend (tVar i) (tCons t tNil)) := by intro t h; exact pe_bm PySem.F.plainAttrs_list PySem.F.slot_list_append PySem.F.type_list_append mt_append (pe_var (by rfl) (by first | exact Or.inl rfl | exact Or.inr (Or.inl rfl) | exact Or.inr (Or.inr rfl))) (pa_cons h pa_nil))
    (hs : swapsWith (.Call (.Attribute (.Name x px) "append" apos) [a] [] cpos) none pos.line X.env = pure false := by rfl) :
    JS X (.Expr (.Call (.Attribute (.Name x px) "append" apos) [a] [] cpos) pos) (sAppF i ma) := ps_mono (ps_expr (pe he) hs) fun D σ H h => by
  obtain ⟨G0, H0, G, ρ, S, fl, ρ', S', r, g, e, k⟩ := h
  obtain ⟨⟨d1, S1⟩, e1, e⟩ := bnd e
  obtain ⟨ds, e2, e⟩ := bnd e
  dsimp only at e
  split at e
  · rename_i hl
    obtain ⟨hi, rfl, rfl, rfl⟩ := putV_inv e
    have ho := ownAt_inv e2
    obtain ⟨p, xs, h1, h2, h3, h4, h5, h6, h7⟩ := r.own i ds ho
    refine ⟨.ref p, h1, .inl ⟨rfl, xs, SqL.of h5⟩, _, fz ρ, S, d1, _, r.fz, r.goodP g, e1, fun G1 v H1 x1 g1 r1 => ?_⟩
    obtain ⟨r2, g2, p2⟩ := r.back g x1 g1
    have h5' := x1.keep p _ h5 h4
    have hlx : xs.length < sizeLine := by rw [h7.length]; exact hl.2
    refine ⟨p, xs, v, rfl, rfl, h5', hlx, ?_⟩
    obtain ⟨r3, g3, p3⟩ := r2.turn g2 (i := i) (a := p) (ds := ds) (es := ds ++ [d1]) (ys := xs ++ [v]) ho h1 (by rw [List.length_append, List.length_singleton]; omega) ((h7.pers p2).append (.cons (r1.flatP hl.1 rfl) .nil))
    exact k _ _ g3 (p2.trans p3) _ r3
  · cases e
/-- xs.extend(e) -/
theorem js_ext (i : Nat) {x : Str} {px apos cpos : Pos} (hN : X.N[i]? = some x) (hv : Vis X.env.scope x) (he : JE X a ma)
    (hd : (x == ("__debug__" : Str)) = false := by decide) (hcd : (x == ("__classdict__" : Str)) = false := by decide)
    (pe : ∀ {t : TE}, PE X a t → PE X (.Call (.Attribute (.Name x px) "extend" apos) [a] [] cpos) (tBM X.K "list" rExtend (tVar i) (tCons t tNil)) := by intro t h; exact pe_bm PySem.F.plainAttrs_list PySem.F.slot_list_extend PySem.F.type_list_extend mt_extend (pe_var (by rfl) (by first | exact Or.inl rfl | exact Or.inr (Or.inl rfl) | exact Or.inr (Or.inr rfl))) (pa_cons h pa_nil))
    (hs : swapsWith (.Call (.Attribute (.Name x px) "extend" apos) [a] [] cpos) none pos.line X.env = pure false := by rfl) :
    JS X (.Expr (.Call (.Attribute (.Name x px) "extend" apos) [a] [] cpos) pos) (sExt i ma) := ps_mono (ps_expr (pe he) hs) fun D σ H h => by
  obtain ⟨G0, H0, G, ρ, S, fl, ρ', S', r, g, e, k⟩ := h
  obtain ⟨⟨d1, S1⟩, e1, e⟩ := bnd e
  obtain ⟨ds, e2, e⟩ := bnd e
  cases d1 with
  | lst es =>
    dsimp only at e
    split at e
    · rename_i hl
      obtain ⟨hi, rfl, rfl, rfl⟩ := putV_inv e
      have ho := ownAt_inv e2
      obtain ⟨p, xs, h1, h2, h3, h4, h5, h6, h7⟩ := r.own i ds ho
      refine ⟨.ref p, h1, .inl ⟨rfl, xs, SqL.of h5⟩, G, vis ρ, S, .lst es, _, r.vis, g, e1, fun G1 v H1 x1 g1 r1 => ?_⟩
      have r2 := r.ext g x1
      have h5' := x1.keep p _ h5 h4
      obtain ⟨b, zs, rfl, _, hb, hzb, rb⟩ := r1.lst_
      have hlx : xs.length + zs.length ≤ sizeLine := by rw [h7.length, rb.length]; exact hl
      refine ⟨p, b, xs, zs, rfl, rfl, h5', hb, hlx, ?_⟩
      obtain ⟨r3, g3, p3⟩ := r2.turn g1 (i := i) (a := p) (ds := ds) (es := ds ++ es) (ys := xs ++ zs) ho h1 (by rw [List.length_append]; exact hlx) ((h7.ext x1 g).append rb)
      exact k G1 _ g3 ((x1.pers g).trans p3) _ r3
    · cases e
  | _ => cases e
theorem js_if {c : Expr} {sa sb : List Stmt} (hc : JT X c mt) (ha : JSs X sa m1) (hb : JSs X sb m2) : JS X (.If c sa sb pos) (sIf mt m1 m2) := ps_mono (ps_if hc ha hb) fun D σ H h => by
  obtain ⟨G0, H0, G, ρ, S, fl, ρ', S', r, g, e, k⟩ := h
  obtain ⟨⟨d1, S1⟩, e1, e⟩ := bnd e
  refine ⟨G, vis ρ, S, d1, S1, r.vis, g, e1, fun G1 H1 x1 g1 => ?_⟩
  cases d1 with
  | true =>
    refine iteT ?_
    dsimp only at e
    rw [if_pos rfl] at e
    exact ⟨G0, H0, G1, ρ, S1, fl, ρ', S', r.ext g x1, g1, e, fun G2 H2 g2 p2 => k G2 H2 g2 ((x1.pers g).trans p2)⟩
  | false =>
    refine iteF ?_
    dsimp only at e
    rw [if_neg Bool.false_ne_true] at e
    exact ⟨G0, H0, G1, ρ, S1, fl, ρ', S', r.ext g x1, g1, e, fun G2 H2 g2 p2 => k G2 H2 g2 ((x1.pers g).trans p2)⟩
theorem js_ifF {c : Expr} {sa sb : List Stmt} (hc : JT X c mt) (ha : JSs X sa m1) (hb : JSs X sb m2) : JS X (.If c sa sb pos) (sIfF mt m1 m2) := ps_mono (ps_if hc ha hb) fun D σ H h => by
  obtain ⟨G0, H0, G, ρ, S, fl, ρ', S', r, g, e, k⟩ := h
  obtain ⟨⟨d1, S1⟩, e1, e⟩ := bnd e
  refine ⟨_, fz ρ, S, d1, S1, r.fz, r.goodP g, e1, fun G1 H1 x1 g1 => ?_⟩
  obtain ⟨r2, g2, p2⟩ := r.back g x1 g1
  cases d1 with
  | true =>
    refine iteT ?_
    dsimp only at e
    rw [if_pos rfl] at e
    exact ⟨G0, H0, _, ρ, S1, fl, ρ', S', r2, g2, e, fun G3 H3 g3 p3 => k G3 H3 g3 (p2.trans p3)⟩
  | false =>
    refine iteF ?_
    dsimp only at e
    rw [if_neg Bool.false_ne_true] at e
    exact ⟨G0, H0, _, ρ, S1, fl, ρ', S', r2, g2, e, fun G3 H3 g3 p3 => k G3 H3 g3 (p2.trans p3)⟩
theorem js_ret (he : JE X a ma) : JS X (.Return (some a) pos) (sRet ma) := ps_mono (ps_ret he) fun D σ H h => by
  obtain ⟨G0, H0, G, ρ, S, fl, ρ', S', r, g, e, k⟩ := h
  obtain ⟨⟨d1, S1⟩, e1, e⟩ := bnd e
  cases e
  exact ⟨_, fz ρ, S, d1, _, r.fz, r.goodP g, e1, fun G1 v H1 x1 g1 r1 => k G1 H1 g1 ((Pers.more).trans (x1.pers (r.goodP g))) v (r.kill.ex.trans x1) r1⟩
theorem js_retN : JS X (.Return none pos) sRetN := ps_mono ps_retN fun D σ H h => by
  obtain ⟨G0, H0, G, ρ, S, fl, ρ', S', r, g, e, k⟩ := h
  cases e
  exact k G H g Pers.refl .non r.ex .non
theorem js_kill (h : JS X st m) : JS X st (sKill m) := ps_mono h fun D σ H h => by
  obtain ⟨G0, H0, G, ρ, S, fl, ρ', S', r, g, e, k⟩ := h
  exact ⟨G0, H0, _, kill ρ, S, fl, ρ', S', r.kill, r.goodP g, e, fun G2 H2 g2 p2 => k G2 H2 g2 (Pers.more.trans p2)⟩
theorem js_aug (i : Nat) {x : Str} {op : Operator} {r : R2} {f : D → D → Option D} {pos' : Pos} (hN : X.N.Nodup) (hi : X.N[i]? = some x) (hx : Loc X.env.scope x) (ho : OpR X (inplaceOp op) r) (hr : Ref2 X.K r f) (he : JE X a ma) (hf : X.fn x = true ∨ X.env.scope.names.lookup x = some .local := by first | exact .inl rfl | exact .inr rfl | assumption) :
    JS X (.AugAssign (.Name x pos') op a pos) (sAug i f ma) := ps_mono (ps_aug hN hi hx he (ti := r) ho hf) fun D σ H h => by
  obtain ⟨G0, H0, G, ρ, S, fl, ρ', S', rr, g, e, k⟩ := h
  unfold sAug at e
  split at e
  · rename_i d hd
    obtain ⟨⟨d1, S1⟩, e1, e⟩ := bnd e
    obtain ⟨z, e2, e⟩ := bnd e
    obtain ⟨hi, rfl, rfl, rfl⟩ := putV_inv e
    obtain ⟨v, h1, h2⟩ := rr.at_ i d hd
    exact ⟨v, h1, G, vis ρ, S, d1, _, rr.vis, g, e1, fun G1 w H1 x1 g1 r1 => hr G1 _ H1 v w d d1 z _ g1 (h2.ext x1 g) r1 e2 fun G2 y H2 x2 g2 r2 => k G2 H2 g2 ((x1.trans x2).pers g) _ ((rr.ext g (x1.trans x2)).set r2)⟩
  · cases e
/-! loops -/
theorem tr_for {it : Env' → M (List D)} {T : Tg} {mb : SM} {D : Ends} {σ : L2.St} {H : Hp} {K : PySem.W.Frag} (h : tS K (sFor it T mb) D σ H) : tFor (tI K it) (gT K T) (tS K mb) D σ H := by
  obtain ⟨G0, H0, G, ρ, S, fl, ρ', S', r, g, e, k⟩ := h
  obtain ⟨⟨ds, S1⟩, e1, e⟩ := bnd e
  refine ⟨G, vis ρ, S, ds, S1, r.vis, g, e1, fun G1 J H1 x1 g1 hz ir => ?_⟩
  refine ⟨fun i m σi Hi => m = ds.length - i ∧ i ≤ ds.length ∧ ∃ Gi ρi Si, RelS K G0 H0 Gi Hi σi ρi ∧ Good K Gi Si Hi ∧ Pers K G1 H1 Gi Hi ∧ sForGo T mb (ds.drop i) ρi Si = some ((fl, ρ'), S'),
    ⟨ds.length, by simp, Nat.zero_le _, G1, ρ, S1, r.ext g x1, g1, Pers.refl, by simpa using e⟩, ?_⟩
  rintro i m σi Hi ⟨rfl, hi, Gi, ρi, Si, ri, gi, pi, eg⟩
  by_cases hlt : i < ds.length
  · refine .inr ?_
    obtain ⟨d, hd⟩ : ∃ d, ds[i]? = some d := ⟨ds[i], by simp [hlt]⟩
    obtain ⟨hgo, hy⟩ := (ir Gi Hi pi i).2 d hd
    have edrop : ds.drop i = d :: ds.drop (i + 1) := by
      rw [List.drop_eq_getElem_cons hlt]
      congr 1
      rw [List.getElem?_eq_getElem hlt] at hd
      exact Option.some.inj hd
    rw [edrop] at eg
    simp only [sForGo] at eg
    obtain ⟨ρ1, ea, eg⟩ := bnd eg
    obtain ⟨⟨⟨f1, ρ2⟩, S2⟩, eb, eg⟩ := bnd eg
    refine ⟨hgo, fun σ' H' => i + 1 ≤ ds.length ∧ ∃ Gi ρi Si, RelS K G0 H0 Gi H' σ' ρi ∧ Good K Gi Si H' ∧ Pers K G1 H1 Gi H' ∧ sForGo T mb (ds.drop (i + 1)) ρi Si = some ((fl, ρ'), S'), fun σ' H' q => ⟨ds.length - (i + 1), by omega, rfl, q⟩, fun x H' hx => ?_⟩
    obtain ⟨hH, rx⟩ := hy x H' hx
    have xe : RelS K G0 H0 Gi H' σi ρi ∧ Good K Gi Si H' ∧ Pers K Gi Hi Gi H' := by
      rcases hH with rfl | ⟨Ta, ob, hT, rfl⟩
      · exact ⟨ri, gi, Pers.refl⟩
      · exact ⟨ri.pers hT, gi.new hT, Pers.new hT⟩
    obtain ⟨ri', gi', pe⟩ := xe
    refine gT_ok (inj := LV.val) (R := fun σ' ρ' => RelS K G0 H0 Gi H' σ' ρ') rx ea (fun j v d σ ρ _ _ q rr => rr.set q) ri' fun σ2 r2 => ?_
    refine ⟨G0, H0, Gi, ρ1, Si, f1, ρ2, S2, r2, gi', eb, fun G5 H5 g5 p5 => ?_⟩
    have p6 : Pers K G1 H1 G5 H5 := (pi.trans pe).trans p5
    cases f1 with
    | nx => exact fun σ6 r6 => ⟨hlt, G5, ρ2, S2, r6, g5, p6, eg⟩
    | cnt => exact fun σ6 r6 => ⟨hlt, G5, ρ2, S2, r6, g5, p6, eg⟩
    | brk => cases eg; exact fun σ6 r6 => k G5 H5 g5 ((x1.pers g).trans p6) σ6 r6
    | ret d => cases eg; exact fun v x6 r6 => k G5 H5 g5 ((x1.pers g).trans p6) v x6 r6
  · have e0 : i = ds.length := by omega
    subst e0
    rw [List.drop_length] at eg
    cases eg
    exact .inl ⟨(ir Gi Hi pi _).1 rfl, k Gi Hi gi ((x1.pers g).trans pi) σi ri⟩
theorem js_for {tg iter : Expr} {body : List Stmt} {it : Env' → M (List D)} {T : Tg} {mb : SM} (hp : PassesOwn (model X.prog X.w) X.A X.env X.xe) (hc : X.calm = true) (hi : JI X tg iter it) (hg : PG X tg (gT X.K T)) (hb : JSs X body mb)
    (hs : ∀ x, foldedSetIterable iter X.env x = pure x := by intro _; rfl) : JS X (.For tg iter body [] pos) (sFor it T mb) := ps_mono (ps_for hp hc hi hg hb hs) fun D σ H h => tr_for h
theorem js_while (n : Nat) {c : Expr} {body : List Stmt} {mb : SM} (hp : PassesOwn (model X.prog X.w) X.A X.env X.xe) (hc : JT X c mt) (hb : JSs X body mb) : JS X (.While c body [] pos) (sWhile mt mb n) := ps_mono (ps_while hp hc hb) fun D σ H h => by
  obtain ⟨G0, H0, G, ρ, S, fl, ρ', S', r, g, e, k⟩ := h
  refine ⟨fun i σi Hi => ∃ Gi ρi Si, RelS X.K G0 H0 Gi Hi σi ρi ∧ Good X.K Gi Si Hi ∧ Pers X.K G H Gi Hi ∧ sWhile mt mb i ρi Si = some ((fl, ρ'), S'), ⟨n, G, ρ, S, r, g, Pers.refl, e⟩, ?_⟩
  rintro i σi Hi ⟨Gi, ρi, Si, ri, gi, pi, eg⟩
  cases i with
  | zero => cases eg
  | succ i =>
    simp only [sWhile] at eg
    obtain ⟨⟨c1, S1⟩, e1, eg⟩ := bnd eg
    refine ⟨_, fz ρi, Si, c1, S1, ri.fz, ri.goodP gi, e1, fun G1 H1 x1 g1 => ?_⟩
    obtain ⟨r2, g2, p2⟩ := ri.back gi x1 g1
    cases c1 with
    | false =>
      refine iteF ?_
      dsimp only at eg
      rw [if_neg Bool.false_ne_true] at eg
      cases eg
      exact k _ H1 g2 (pi.trans p2) _ r2
    | true =>
      refine iteT ?_
      dsimp only at eg
      rw [if_pos rfl] at eg
      obtain ⟨⟨⟨f1, ρ2⟩, S2⟩, eb, eg⟩ := bnd eg
      refine ⟨fun σ' H' => ∃ Gi ρi Si, RelS X.K G0 H0 Gi H' σ' ρi ∧ Good X.K Gi Si H' ∧ Pers X.K G H Gi H' ∧ sWhile mt mb i ρi Si = some ((fl, ρ'), S'), fun σ' H' q => ⟨i, Nat.lt_succ_self i, q⟩, ?_⟩
      refine ⟨G0, H0, _, ρi, S1, f1, ρ2, S2, r2, g2, eb, fun G5 H5 g5 p5 => ?_⟩
      have p6 : Pers X.K G H G5 H5 := (pi.trans p2).trans p5
      cases f1 with
      | nx => exact fun σ6 r6 => ⟨G5, ρ2, S2, r6, g5, p6, eg⟩
      | cnt => exact fun σ6 r6 => ⟨G5, ρ2, S2, r6, g5, p6, eg⟩
      | brk => cases eg; exact fun σ6 r6 => k G5 H5 g5 p6 σ6 r6
      | ret d => cases eg; exact fun v x6 r6 => k G5 H5 g5 p6 v x6 r6
end

/-! ### a def -/
theorem rel_start {K : PySem.W.Frag} {G : Gh} {S : Sto} {H : Hp} {N : List Str} {vs : List V} {ds : List D} (r : RpA K G H vs ds) (hl : ds.length = vs.length) :
    RelS K G H G H (start N vs) (ds.map (fun d => some (LV.val d)) ++ List.replicate (N.length - ds.length) none) := by
  have hv := r.length
  refine ⟨Ext.refl, ?_, fun i d h => ?_, fun i es h => ?_, fun i j es fs a h => ?_⟩
  · unfold L2.start
    rw [List.length_append, List.length_append, List.length_map, List.length_map, List.length_replicate, List.length_replicate, hv]
  · unfold L2.start
    by_cases hi : i < ds.length
    · rw [List.getElem?_append_left (by rw [List.length_map]; exact hi), List.getElem?_map, Option.map_eq_some_iff] at h
      obtain ⟨d', h1, h2⟩ := h
      cases h2
      obtain ⟨v, h3, h4⟩ := r.get h1
      exact ⟨v, by rw [List.getElem?_append_left (by rw [List.length_map, hv]; exact hi), List.getElem?_map, h3]; rfl, h4⟩
    · rw [List.getElem?_append_right (by rw [List.length_map]; omega), List.getElem?_replicate] at h
      split at h <;> cases h
  · by_cases hi : i < ds.length
    · rw [List.getElem?_append_left (by rw [List.length_map]; exact hi), List.getElem?_map, Option.map_eq_some_iff] at h
      obtain ⟨d', h1, h2⟩ := h
      cases h2
    · rw [List.getElem?_append_right (by rw [List.length_map]; omega), List.getElem?_replicate] at h
      split at h <;> cases h
  · by_cases hi : i < ds.length
    · rw [List.getElem?_append_left (by rw [List.length_map]; exact hi), List.getElem?_map, Option.map_eq_some_iff] at h
      obtain ⟨d', h1, h2⟩ := h
      cases h2
    · rw [List.getElem?_append_right (by rw [List.length_map]; omega), List.getElem?_replicate] at h
      split at h <;> cases h
theorem runDef_len {n k : Nat} {m : SM} {ds : List D} {S : Sto} {r : D × Sto} (h : runDef n k m ds S = some r) : ds.length = k := by
  unfold runDef at h
  split at h
  · assumption
  · cases h
section
variable {P : Program} {w : World} {K : PySem.W.Frag} {mg : Str → Option Value} {base : Heap} {x qual : Str} {params : Arguments} {body : List Stmt} {scope : Scope} {dvs : List V} {kws : List (Str × V)} {f : Addr} {fd : FuncData}
/-- a def does what its body's mirror does -/
theorem ok_def {N ps : List Str} {k : Nat} {m : SM} (F : FunD K x qual params body scope dvs kws f fd) (S : FnScope N ps scope)
    (hbody : ∀ (cdv : Value) (A : Around) (outer : List Env) (s : Shared) (H : Hp) (E : XK), Room k (A.deeper (envOfC qual scope s.heap.objs.size f cdv)) → JSs (cxOf CX0 P w K mg base N qual scope f cdv A outer s H E).nox body m) :
    FnOk P w K mg base CX0 (k + 1) f fd ps (spF K (runDef N.length ps.length m)) := by
  refine F.ok S (fun vs H Q E h => ?_) (fun cdv A outer s H vs Q E hr h => ⟨tS K m, PSs.nox (hbody cdv A outer s H E hr), ?_⟩)
  · obtain ⟨G, S, ds, d, S', g, r, e, _⟩ := h
    rw [r.length]
    exact runDef_len e
  · obtain ⟨G, S, ds, d, S', g, r, e, k⟩ := h
    have hl := runDef_len e
    unfold runDef at e
    rw [if_pos hl] at e
    obtain ⟨⟨⟨f1, ρ1⟩, S1⟩, e1, e⟩ := bnd e
    refine ⟨G, H, G, _, S, f1, ρ1, S1, rel_start (S := S) r r.length.symm, g, by rw [hl]; exact e1, fun G1 H1 g1 p1 => ?_⟩
    cases f1 with
    | ret d' => cases e; exact fun v x1 r1 => k G1 v H1 x1 g1 r1
    | nx => cases e; exact fun σ1 r1 => k G1 .non H1 r1.ex g1 .non
    | brk => cases e
    | cnt => cases e
end
/-- a def of the text and what it does -/
structure OkF (P : Program) (w : World) (K : PySem.W.Frag) (mg : Str → Option Value) (base : Heap) (k : Nat) (x : Str) (ps : List Str) (fn : List D → M D) : Prop where
  ex : ∃ fd, FnOk P w K mg base CX0 k (He.ga K x) fd ps (spF K fn) ∧ Binds K fd ps []
  kp : PySem.W.keepIn K (.ref (He.ga K x)) = true
  at_ : mg x = some (.ref (He.ga K x))
/-- called with all its parameters by name -/
structure OkK (P : Program) (w : World) (K : PySem.W.Frag) (mg : Str → Option Value) (base : Heap) (k : Nat) (x : Str) (ps : List Str) (fn : List D → M D) : Prop where
  ex : ∃ fd, FnOk P w K mg base CX0 k (He.ga K x) fd ps (spF K fn) ∧ ∀ (s : Shared) (ws : List Value), ws.length = ps.length → BindsTo s fd ⟨[], ps.zip ws⟩ (ps.zip ws)
  kp : PySem.W.keepIn K (.ref (He.ga K x)) = true
  at_ : mg x = some (.ref (He.ga K x))
/-- with defaults for the last ones -/
structure OkD (P : Program) (w : World) (K : PySem.W.Frag) (mg : Str → Option Value) (base : Heap) (k : Nat) (x : Str) (ps : List Str) (fn : List D → M D) (dd : List D) : Prop where
  ex : ∃ fd dvs ds, FnOk P w K mg base CX0 k (He.ga K x) fd ps (spF K fn) ∧ Binds K fd ps ds ∧ Vals dvs ds ∧ ∀ G H, RpA K G H dvs dd
  kp : PySem.W.keepIn K (.ref (He.ga K x)) = true
  at_ : mg x = some (.ref (He.ga K x))
section
variable {X : Cx} {a : Expr} {es : List Expr} {ms : Env' → M (List D)} {pos p : Pos} {k : Nat} {x : Str} {ps : List Str} {fn : List D → M D} {dd : List D} {kws : List Keyword}
theorem je_callO (O : OkF X.prog X.w X.K X.mg X.base k x ps fn) (hr : Room k X.A) (hg : Gl X x) (ha : JA X (a :: es) ms) (hdb : (x == ("__debug__" : Str)) = false := by decide) (he : starEach (a :: es) X.env = (false, eval a X.env) :: starEach es X.env := by rfl) (hpl : (backTo pos (starEach es X.env)).any (·.1) = false := by rfl) :
    JE X (.Call (.Name x p) (a :: es) [] pos) (eF fn ms) := by
  obtain ⟨fd, F, b⟩ := O.ex
  exact je_call F hr hg O.at_ O.kp b ha hdb he hpl
theorem je_callOK (O : OkK X.prog X.w X.K X.mg X.base k x ps fn) (hr : Room k X.A) (hg : Gl X x) (ha : JK X kws ms) (hall : (backToKw pos (keywordEach kws X.env)).all (·.1.isSome) = true := by rfl) (hks : (backToKw pos (keywordEach kws X.env)).filterMap (·.1) = ps := by rfl) (hdb : (x == ("__debug__" : Str)) = false := by decide)
    (hpl : ((backTo pos (starEach [] X.env)).any (·.1) || (backToKw pos (keywordEach kws X.env)).any (·.1.isNone)) = false := by rfl) : JE X (.Call (.Name x p) [] kws pos) (eF fn ms) := by
  obtain ⟨fd, F, b⟩ := O.ex
  exact je_callK F hr hg O.at_ O.kp b ha hall hks hdb hpl
theorem je_callOD (O : OkD X.prog X.w X.K X.mg X.base k x ps fn dd) (hr : Room k X.A) (hg : Gl X x) (ha : JA X (a :: es) ms) (hdb : (x == ("__debug__" : Str)) = false := by decide) (he : starEach (a :: es) X.env = (false, eval a X.env) :: starEach es X.env := by rfl) (hpl : (backTo pos (starEach es X.env)).any (·.1) = false := by rfl) :
    JE X (.Call (.Name x p) (a :: es) [] pos) (eF (fun l => fn (l ++ dd)) ms) := by
  obtain ⟨fd, dvs, ds, F, b, v, h⟩ := O.ex
  exact je_calld dd F hr hg O.at_ O.kp b v h ha hdb he hpl
end
end J
end
section
set_option Elab.async false
set_option linter.all false
set_option maxRecDepth 100000
set_option maxHeartbeats 4000000
/-! J7: enumerate and zip over lists and tuples in any mix. Own work. -/
namespace J
open PySem PySem.Spec PyProof.Rows L2

/-! ### a list or a tuple -/
inductive Src where
  | l (a : Addr) | t (a : Addr)
def Src.ad : Src → Addr
  | .l a => a
  | .t a => a
def Src.Sq (K : PySem.W.Frag) (H : Hp) : Src → List V → Prop
  | .l a, xs => SqL K H a xs
  | .t a, xs => SqT K H a xs
def Src.Itr (h : Heap) (it : Addr) (i : Nat) : Src → Prop
  | .l a => h.IsListIter it a i
  | .t a => h.IsTupleIter it a i
def Src.At (h : Heap) (its : Array Value) : Src → Prop
  | .l a => h.IsList a its
  | .t a => h.IsTuple a its
def Src.ob : Src → Obj
  | .l a => { cls := .type "list_iterator", data := .fields #[.ref a, .int 0 0] }
  | .t a => { cls := .type "tuple_iterator", data := .fields #[.ref a, .int 0 0] }
theorem Src.draws {prog : Program} {w : World} {A : Around} (hh : A.handled = none) (it : Addr) (S : Src) (hne : S.ad ≠ it) (items : Array Value) :
    Draws prog w A it [it, S.ad] items.size (fun i v => items[i]? = some v) (fun i h => S.Itr h it i ∧ S.At h items) := by
  cases S with
  | l a => exact Draws.list hh it a hne items
  | t a => exact Draws.tuple hh it a hne items
theorem Src.begins (S : Src) (items : Array Value) : Begins (.ref S.ad) S.ob fun h => S.At h items := by
  cases S with
  | l a => exact begins_list a items
  | t a => exact begins_tuple a items
theorem Src.itr0 {S : Src} {h : Heap} {it : Addr} (e : h.get? it = some S.ob) : S.Itr h it 0 := by
  cases S with
  | l a => exact ⟨_, e, rfl, rfl⟩
  | t a => exact ⟨_, e, rfl, rfl⟩
theorem Src.itr_at {S : Src} {h h' : Heap} {it : Addr} {i : Nat} (e : S.Itr h it i) (k : ∀ o, h.get? it = some o → h'.get? it = some o) : S.Itr h' it i := by
  cases S with
  | l a => exact e.at k
  | t a => exact e.at k
theorem Src.itr_ob {S : Src} {h : Heap} {it : Addr} {i : Nat} (e : S.Itr h it i) : ∃ o, h.get? it = some o ∧ ∀ v, o.data ≠ .cell v := by
  cases S with
  | l a => obtain ⟨o, e1, _, d1⟩ := e; exact ⟨o, e1, fun v q => by rw [d1] at q; cases q⟩
  | t a => obtain ⟨o, e1, _, d1⟩ := e; exact ⟨o, e1, fun v q => by rw [d1] at q; cases q⟩
theorem Src.at_keep {S : Src} {h h' : Heap} {its : Array Value} (e : S.At h its) (k : ∀ o, h.get? S.ad = some o → h'.get? S.ad = some o) : S.At h' its := by
  cases S with
  | l a => exact e.at k
  | t a => exact e.at k
theorem Src.lt {S : Src} {h : Heap} {its : Array Value} (e : S.At h its) : S.ad < h.objs.size := by
  cases S with
  | l a => obtain ⟨o, ho, _⟩ := e; exact Heap.lt_size ho
  | t a => obtain ⟨o, ho, _⟩ := e; exact Heap.lt_size ho
section
variable {X : Cx} {pins : List (Addr × Obj)} {σ : L2.St} {H : Hp} {s : Shared}
theorem Src.of {S : Src} {xs : List V} (I : Inv X pins σ H s) (q : S.Sq X.K H xs) : ∃ its : List Value, Vals xs its ∧ S.At s.heap its.toArray := by
  cases S with
  | l a => obtain ⟨its, rv, p, _⟩ := I.list q; exact ⟨its, rv, p.isList⟩
  | t a => obtain ⟨its, rv, p, _⟩ := I.tuple q; exact ⟨its, rv, p⟩
theorem Src.inj {S : Src} {xs ys : List V} (I : Inv X pins σ H s) (q : S.Sq X.K H xs) (q' : S.Sq X.K H ys) : xs = ys := by
  cases S with
  | l a => exact I.list_inj q q'
  | t a => exact I.tuple_inj q q'
end

/-! ### enumerate -/
def ItE (K : PySem.W.Frag) (S : Src) : It :=
  ⟨fun i H => ∃ (xs : List V) (x : V), S.Sq K H xs ∧ xs[i]? = some x, fun i H v H' => ∃ T x, v = .ref T ∧ H T = none ∧ H' = upd H T (.tup [.int (i : Nat), x]) ∧ ∀ xs, S.Sq K H xs → xs[i]? = some x, fun i H => ∃ xs : List V, S.Sq K H xs ∧ xs.length = i⟩
theorem turn_enumS {P : Program} {w : World} {K : PySem.W.Frag} {elts : List Expr} {kk : Nat} {tpos : Pos} (S : Src) (e it : Addr) :
    Turn P w K (.Tuple elts kk tpos) (ItE K S) [e, it] e (fun i h => (∃ old, IsEnum h e it ((i : Nat) : Int) old) ∧ S.Itr h it i ∧ e ≠ it ∧ S.ad ≠ it ∧ e ≠ S.ad) where
  mem := by simp
  obj := fun i h st b hb => by
    obtain ⟨⟨old, he⟩, hi, _⟩ := st
    have e' : b = e ∨ b = it := by simpa using hb
    rcases e' with z | z
    · rw [z]; exact ⟨_, he, fun v q => nomatch q⟩
    · rw [z]; exact Src.itr_ob hi
  keep := fun i h h' st k => let ⟨⟨old, he⟩, hi, hne⟩ := st; ⟨⟨old, k e (by simp) _ he⟩, Src.itr_at hi fun o q => k it (by simp) o q, hne⟩
  item := by
    intro X hP hw hK hc i pins s σ H E I hf st hg
    subst hP hw hK
    obtain ⟨⟨old, he⟩, hit, hne, hSi, hSe⟩ := st
    obtain ⟨xs, x, hq, hx⟩ := hg
    obtain ⟨its, rv, p⟩ := Src.of I hq
    obtain ⟨u, hu, ru⟩ := rv.get hx
    have hel : e < s.heap.objs.size := Heap.lt_size he
    have hil : it < s.heap.objs.size := by obtain ⟨_, q, _⟩ := Src.itr_ob hit; exact Heap.lt_size q
    have hilen : i < its.toArray.size := by
      have := (List.getElem?_eq_some_iff.mp hu).1
      simpa using this
    refine wpAny_pyNext_enum_itemD (Src.draws (show X.A.in1.handled = none from I.ok.hd hc) it S hSi its.toArray) he ⟨hit, p⟩ hilen hne (by simp [hne, hSe]) fun u' h' tk hP ho hit' hT hsz hk => ?_
    have hu' : its[i]? = some u' := by simpa using hP
    rw [hu] at hu'
    cases hu'
    refine ⟨_, rfl, wpAny_letOwnedTupleGo_enum (s := { s with heap := h', toks := tk + 1 }) ho fun h'' he' sb => ?_⟩
    have hT2 : h''.get? s.heap.objs.size = some { cls := .type "tuple", data := .seq #[.int i tk, u] } := (sb.2 _ (Nat.ne_of_gt hel)).trans hT
    have new : ObjOk X.prog X.w (upd H s.heap.objs.size (.tup [.int (i : Nat), x])) h'' s.heap.objs.size (.tup [.int (i : Nat), x]) :=
      ⟨by show 2 ≤ sizeLine; decide, [.int i tk, u], .cons ⟨_, rfl⟩ (.cons ru .nil), ⟨_, hT2, rfl, _, rfl⟩⟩
    have I1 : Inv X pins σ (upd H s.heap.objs.size (.tup [.int (i : Nat), x])) { s with heap := h'', toks := tk + 1 } :=
      I.turnedNew (ch := [e, it]) (fun b ob hb q => (sb.2 b (fun z => hb (by simp [z]))).trans (hk b ob (fun z => hb (by simp [z])) (fun z => hb (by simp [z])) q)) hf (Nat.le_refl _) new
    refine ⟨.ref s.heap.objs.size, _, I1, rfl, ⟨_, x, rfl, I.hok.fresh (Nat.le_refl _), rfl, fun ys hy => by rw [Src.inj I hy hq]; exact hx⟩, ⟨⟨u, ?_⟩, Src.itr_at hit'.1 fun o q => (sb.2 it (Ne.symm hne)).trans q, hne, hSi, hSe⟩, fun b hb => ?_⟩
    · have e1 : ((i + 1 : Nat) : Int) = (i : Int) + 1 := by omega
      rw [e1]; exact he'
    · have hb' : b < s.heap.objs.size := by
        have e' : b = e ∨ b = it := by simpa using hb
        rcases e' with z | z
        · rw [z]; exact hel
        · rw [z]; exact hil
      rw [upd_ne (Nat.ne_of_lt hb')]
      exact (hf b hb).1
  done := by
    intro X hP hw hK hc i pins s σ H E I hf st hg
    subst hP hw hK
    obtain ⟨⟨old, he⟩, hit, hne, hSi, hSe⟩ := st
    obtain ⟨xs, hq, hx⟩ := hg
    obtain ⟨its, rv, p⟩ := Src.of I hq
    have hl := rv.length
    have hn : its.toArray.size = i := by simp; omega
    refine wpAny_pyNext_enum_endD (n := its.toArray.size) (Src.draws (show X.A.in1.handled = none from I.ok.hd hc) it S hSi its.toArray) he ⟨by rw [hn]; exact hit, p⟩ fun h' eb => ⟨rfl, I.turnedL (t' := s.toks) (ch := [e, it]) (fun b o hb q => eb b o (fun z => hb (by simp [z])) q) hf⟩
  self := fun A i s Q E st h => let ⟨⟨_, he⟩, _⟩ := st; wpAny_pyIter_enum he h
set_option maxHeartbeats 1000000 in
theorem meets_enumerate_newB1 {v : Value} {o : Obj} {H : Heap → Prop} (B : Begins v o H) :
    Meets (Builtin.«enumerate.__new__» ⟨[.type "enumerate", v], []⟩) (fun _ R s => H s.heap ∧
      R (.ok (.ret (.ref (s.heap.push o).objs.size))) { s with heap := (s.heap.push o).push { cls := .type "enumerate", data := .fields #[.none, .bool false, .ref s.heap.objs.size, rawInt 0, .none, .none] } }) :=
  .of_wp fun prog w A R s h => by
    obtain ⟨hp, g, d, tk, os⟩ := s; obtain ⟨h1, h⟩ := h
    have hsub := sub_enumerate
    have q1 : ∀ {A' : Around} {E : Value → Shared → Prop} {Q : Value → Shared → Prop}, Q (.ref hp.objs.size) ⟨hp.push o, g, d, tk, os⟩ → wpAny (model prog w) A' (pyIter v) Q E ⟨hp, g, d, tk, os⟩ :=
      fun q => B.iter prog w _ _ ⟨hp, g, d, tk, os⟩ _ h1 q
    wp_walk using q1
    refine wpAny_stack_any fun st => wpAny_pure ?_
    split
    · rename_i c _ _ _ _ _
      cases (c == Value.type "enumerate")
      · wp_walk using q1
        exact ⟨_, rfl, h⟩
      · wp_walk using q1
        exact ⟨_, rfl, h⟩
    · wp_walk using q1
      exact ⟨_, rfl, h⟩
section
variable {prog : Program} {w : World} {A : Around} {E : Value → Shared → Prop} {s : Shared}
theorem enum_begins1 {v : Value} {o : Obj} {H : Heap → Prop} {Q : Value → Shared → Prop} (B : Begins v o H) (h1 : H s.heap)
    (h : ∀ h', IsEnum h' (s.heap.objs.size + 1) s.heap.objs.size 0 .none → h'.get? s.heap.objs.size = some o → h'.objs.size = s.heap.objs.size + 2 →
      (∀ b o, s.heap.get? b = some o → h'.get? b = some o) → Q (.ref (s.heap.objs.size + 1)) { s with heap := h' }) :
    wpAny (model prog w) A (call (.type "enumerate") [v]) Q E s := by
  refine callType_new F.called_enumerate (by decide) (F.typeCall_enumerate_1 _) (F.newCall_enumerate_1 _) (fun obj => F.args_object_init_2 obj _) F.entry_enumerate_new
    (meets_enumerate_newB1 B) ⟨h1, ?_⟩
  have hz : (s.heap.push o).objs.size = s.heap.objs.size + 1 := Heap.size_push ..
  show _ ∧ _
  rw [hz]
  have he : IsEnum ((s.heap.push o).push { cls := .type "enumerate", data := .fields #[.none, .bool false, .ref s.heap.objs.size, rawInt 0, .none, .none] }) (s.heap.objs.size + 1) s.heap.objs.size 0 .none := by
    have := Heap.get?_push_size (s.heap.push o) (o := { cls := .type "enumerate", data := .fields #[.none, .bool false, .ref s.heap.objs.size, rawInt 0, .none, .none] }) rfl
    rw [hz] at this; exact this
  refine ⟨⟨_, he, rfl⟩, h _ he (Heap.get?_push_of_some _ (Heap.get?_push_size _ B.free)) (by rw [Heap.size_push, hz]) fun b o x => Heap.get?_push_of_some _ (Heap.get?_push_of_some _ x)⟩
end
def iEnumS (K : PySem.W.Frag) (ta : TA) : TI := fun σ H R => ta σ H fun vs H1 => ∃ (S : Src) (xs : List V), vs = [.ref S.ad] ∧ S.Sq K H1 xs ∧ R (ItE K S) H1
theorem pi_enumS {X : Cx} {e : Expr} {ta : TA} {p pos tpos : Pos} {elts : List Expr} {kk : Nat} (hg : Gl X "enumerate") (hm : X.mg "enumerate" = none) (ha : PA X [e] ta) (hs : starEach [e] X.env = [(false, eval e X.env)] := by rfl) :
    PI X (.Tuple elts kk tpos) (.Call (.Name "enumerate" p) [e] [] pos) (iEnumS X.K ta) := by
  refine ⟨fun pins s σ H R I h => ?_⟩
  refine Call_ (ld_blt I hg hm boot_enumerate (PyProof.Rows.callWith_type1 (thn (ha.run pos pins s σ H _ I h) fun us s1 ⟨vs, H1, I1, r1, q1⟩ => ?_) hs rfl))
  obtain ⟨S, xs, ex, hq, q⟩ := q1
  subst ex
  cases r1 with
  | cons r rr =>
    cases rr
    cases (show _ = Value.ref S.ad from r)
    obtain ⟨its, rv, p'⟩ := Src.of I1 hq
    have hlt := Src.lt p'
    refine enum_begins1 (S.begins its.toArray) p' fun h' he hit hsz hk => wpAny_pyIter_enum he ?_
    have I2 : Inv X pins σ H1 { s1 with heap := h' } := I1.kept (t' := s1.toks) hk
    refine ⟨s1.heap.objs.size + 1, [s1.heap.objs.size + 1, s1.heap.objs.size], _, _, H1, rfl, I2, turn_enumS S (s1.heap.objs.size + 1) s1.heap.objs.size, ⟨⟨.none, he⟩, Src.itr0 hit, Nat.succ_ne_self _, Nat.ne_of_lt hlt, Nat.ne_of_gt (Nat.lt_succ_of_lt hlt)⟩, fun b hb => ?_, q⟩
    have e' : b = s1.heap.objs.size + 1 ∨ b = s1.heap.objs.size := by simpa using hb
    have hle : s1.heap.objs.size ≤ b := by
      rcases e' with z | z
      · rw [z]; exact Nat.le_add_right _ _
      · rw [z]; exact Nat.le_refl _
    exact I1.fpOk hle (I1.hok.fresh hle)

/-! ### zip -/
def ItZ (K : PySem.W.Frag) (S T : Src) : It :=
  ⟨fun i H => ∃ (xs ys : List V) (x y : V), S.Sq K H xs ∧ T.Sq K H ys ∧ xs[i]? = some x ∧ ys[i]? = some y,
    fun i H v H' => ∃ p x y, v = .ref p ∧ H p = none ∧ H' = upd H p (.tup [x, y]) ∧ (∀ xs, S.Sq K H xs → xs[i]? = some x) ∧ ∀ ys, T.Sq K H ys → ys[i]? = some y,
    fun i H => ∃ xs ys : List V, S.Sq K H xs ∧ T.Sq K H ys ∧ i ≤ xs.length ∧ i ≤ ys.length ∧ (i = xs.length ∨ i = ys.length)⟩
theorem turn_zipS {P : Program} {w : World} {K : PySem.W.Frag} {elts : List Expr} {kk : Nat} {tpos : Pos} {S T : Src} {z TI TO i1 i2 : Addr} (D : ZipSep2 z TI TO i1 i2 [i1, S.ad] [i2, T.ad]) (hn1 : S.ad ≠ i1) (hn2 : T.ad ≠ i2) :
    Turn P w K (.Tuple elts kk tpos) (ItZ K S T) [z, TI, TO, i1, i2] z (fun i h => IsZip h z TI TO .none ∧ IsTupOf2 h TI (.ref i1) (.ref i2) ∧ (∃ x y, IsTupOf2 h TO x y) ∧ S.Itr h i1 i ∧ T.Itr h i2 i) where
  mem := by simp
  obj := fun i h st c hc => by
    obtain ⟨hz, hTI, ⟨x, y, hTO⟩, h1, h2⟩ := st
    have e' : c = z ∨ c = TI ∨ c = TO ∨ c = i1 ∨ c = i2 := by simpa using hc
    rcases e' with q | q | q | q | q
    · rw [q]; exact ⟨_, hz, fun v q => nomatch q⟩
    · rw [q]; exact ⟨_, hTI, fun v q => nomatch q⟩
    · rw [q]; exact ⟨_, hTO, fun v q => nomatch q⟩
    · rw [q]; exact Src.itr_ob h1
    · rw [q]; exact Src.itr_ob h2
  keep := fun i h h' st k => by
    obtain ⟨hz, hTI, ⟨x, y, hTO⟩, h1, h2⟩ := st
    exact ⟨k z (by simp) _ hz, k TI (by simp) _ hTI, ⟨x, y, k TO (by simp) _ hTO⟩, Src.itr_at h1 fun o q => k i1 (by simp) o q, Src.itr_at h2 fun o q => k i2 (by simp) o q⟩
  item := by
    intro X hP hw hK hc i pins s σ H E I hf st hg
    subst hP hw hK
    obtain ⟨hz, hTI, ⟨x0, y0, hTO⟩, h1, h2⟩ := st
    obtain ⟨xs, ys, x, y, hqx, hqy, hx, hy⟩ := hg
    obtain ⟨its, rv, p⟩ := Src.of I hqx
    obtain ⟨its2, rv2, p2⟩ := Src.of I hqy
    obtain ⟨u, hu, ru⟩ := rv.get hx
    obtain ⟨u2, hu2, ru2⟩ := rv2.get hy
    have hzl : z < s.heap.objs.size := Heap.lt_size hz
    have l1 : i < its.toArray.size := by
      have := (List.getElem?_eq_some_iff.mp hu).1
      simpa using this
    have l2 : i < its2.toArray.size := by
      have := (List.getElem?_eq_some_iff.mp hu2).1
      simpa using this
    refine wpAny_pyNext_zipD2_item D (Src.draws (show X.A.in1.handled = none from I.ok.hd hc) i1 S hn1 its.toArray) (Src.draws (show X.A.in1.handled = none from I.ok.hd hc) i2 T hn2 its2.toArray) hz hTI hTO ⟨h1, p⟩ ⟨h2, p2⟩ l1 l2 fun v1 v2 h' tk hP1 hP2 z' TO' h1' h2' hT hsz hk => ?_
    have hu' : its[i]? = some v1 := by simpa using hP1
    rw [hu] at hu'
    cases hu'
    have hu2' : its2[i]? = some v2 := by simpa using hP2
    rw [hu2] at hu2'
    cases hu2'
    refine ⟨_, rfl, wpAny_letOwnedTupleGo_zip (s := { s with heap := h', toks := tk }) z' fun h'' z'' sb => ?_⟩
    have hT2 : h''.get? s.heap.objs.size = some { cls := .type "tuple", data := .seq #[u, u2] } := (sb.2 _ (Nat.ne_of_gt hzl)).trans hT
    have new : ObjOk X.prog X.w (upd H s.heap.objs.size (.tup [x, y])) h'' s.heap.objs.size (.tup [x, y]) :=
      ⟨by show 2 ≤ sizeLine; decide, [u, u2], .cons ru (.cons ru2 .nil), ⟨_, hT2, rfl, _, rfl⟩⟩
    have I1 : Inv X pins σ (upd H s.heap.objs.size (.tup [x, y])) { s with heap := h'', toks := tk } :=
      I.turnedNew (ch := [z, TI, TO, i1, i2]) (fun c o hb q => (sb.2 c (fun q' => hb (by simp [q']))).trans (hk c o (fun q' => hb (by simp [q'])) (fun q' => hb (by simp [q'])) (fun q' => hb (by simp [q'])) (fun q' => hb (by simp [q'])) q)) hf (Nat.le_refl _) new
    refine ⟨.ref s.heap.objs.size, _, I1, rfl, ⟨_, x, y, rfl, I.hok.fresh (Nat.le_refl _), rfl, fun l hl => by rw [Src.inj I hl hqx]; exact hx, fun l hl => by rw [Src.inj I hl hqy]; exact hy⟩, ⟨z'', ?_, ⟨u, u2, ?_⟩, ?_, ?_⟩, fun c hcm => ?_⟩
    · exact (sb.2 _ D.TIz).trans (hk _ _ D.TIz D.TITO D.TIi1 D.TIi2 hTI)
    · exact (sb.2 _ D.TOz).trans TO'
    · exact Src.itr_at h1'.1 fun o q => (sb.2 _ (Ne.symm D.zi1)).trans q
    · exact Src.itr_at h2'.1 fun o q => (sb.2 _ (Ne.symm D.zi2)).trans q
    · have hlt : c < s.heap.objs.size := by
        have e' : c = z ∨ c = TI ∨ c = TO ∨ c = i1 ∨ c = i2 := by simpa using hcm
        rcases e' with q | q | q | q | q
        · rw [q]; exact hzl
        · rw [q]; exact Heap.lt_size hTI
        · rw [q]; exact Heap.lt_size hTO
        · rw [q]; obtain ⟨_, e1, _⟩ := Src.itr_ob h1; exact Heap.lt_size e1
        · rw [q]; obtain ⟨_, e2, _⟩ := Src.itr_ob h2; exact Heap.lt_size e2
      rw [upd_ne (Nat.ne_of_lt hlt)]
      exact (hf c hcm).1
  done := by
    intro X hP hw hK hc i pins s σ H E I hf st hg
    subst hP hw hK
    obtain ⟨hz, hTI, ⟨x0, y0, hTO⟩, h1, h2⟩ := st
    obtain ⟨xs, ys, hqx, hqy, q1, q2, q3⟩ := hg
    obtain ⟨its, rv, p⟩ := Src.of I hqx
    obtain ⟨its2, rv2, p2⟩ := Src.of I hqy
    have e1 : its.toArray.size = xs.length := by rw [List.size_toArray]; exact rv.length.symm
    have e2 : its2.toArray.size = ys.length := by rw [List.size_toArray]; exact rv2.length.symm
    exact wpAny_pyNext_zipD2_end D (Src.draws (show X.A.in1.handled = none from I.ok.hd hc) i1 S hn1 its.toArray) (Src.draws (show X.A.in1.handled = none from I.ok.hd hc) i2 T hn2 its2.toArray) hz hTI hTO ⟨h1, p⟩ ⟨h2, p2⟩ (by rw [e1]; exact q1) (by rw [e2]; exact q2) (by rw [e1, e2]; exact q3)
      fun h' tk hk => ⟨rfl, I.turnedL (ch := [z, TI, TO, i1, i2]) (fun c o hb q =>
      hk c o (fun q' => hb (by simp [q'])) (fun q' => hb (by simp [q'])) (fun q' => hb (by simp [q'])) (fun q' => hb (by simp [q'])) q) hf⟩
  self := fun A i s Q E st h => wpAny_pyIter_zip st.1 h
def iZipS (K : PySem.W.Frag) (ta : TA) : TI := fun σ H R => ta σ H fun vs H1 => ∃ (S T : Src) (xs ys : List V), vs = [.ref S.ad, .ref T.ad] ∧ S.Sq K H1 xs ∧ T.Sq K H1 ys ∧ R (ItZ K S T) H1
theorem pi_zipS {X : Cx} {e e2 : Expr} {ta : TA} {p pos tpos : Pos} {elts : List Expr} {kk : Nat} (hg : Gl X "zip") (hm : X.mg "zip" = none) (ha : PA X [e, e2] ta)
    (hs : starEach [e, e2] X.env = (false, eval e X.env) :: starEach [e2] X.env := by rfl) (hpl : (backTo pos (starEach [e2] X.env)).any (·.1) = false := by rfl) :
    PI X (.Tuple elts kk tpos) (.Call (.Name "zip" p) [e, e2] [] pos) (iZipS X.K ta) := by
  refine ⟨fun pins s σ H R I h => ?_⟩
  refine Call_ (ld_blt I hg hm PyProof.Rows.boot_zip (PyProof.Rows.callWith_type1 (thn (ha.run pos pins s σ H _ I h) fun us s1 ⟨vs, H1, I1, r1, q1⟩ => ?_) hs hpl))
  obtain ⟨S, T, xs, ys, ex, hqx, hqy, q⟩ := q1
  subst ex
  obtain ⟨u1, u2, rfl, r1, r2⟩ := vals2 r1
  cases (show _ = Value.ref S.ad from r1)
  cases (show _ = Value.ref T.ad from r2)
  have fresh5 : ∀ c, c ∈ [s1.heap.objs.size + 4, s1.heap.objs.size + 2, s1.heap.objs.size + 3, s1.heap.objs.size, s1.heap.objs.size + 1] → FpOk X pins H1 c := fun c hcm => by
    have e' : c = s1.heap.objs.size + 4 ∨ c = s1.heap.objs.size + 2 ∨ c = s1.heap.objs.size + 3 ∨ c = s1.heap.objs.size ∨ c = s1.heap.objs.size + 1 := by simpa using hcm
    have hle : s1.heap.objs.size ≤ c := by
      rcases e' with z | z | z | z | z
      · rw [z]; exact Nat.le_add_right _ _
      · rw [z]; exact Nat.le_add_right _ _
      · rw [z]; exact Nat.le_add_right _ _
      · rw [z]; exact Nat.le_refl _
      · rw [z]; exact Nat.le_add_right _ _
    exact I1.fpOk hle (I1.hok.fresh hle)
  obtain ⟨its, rv, p1⟩ := Src.of I1 hqx
  obtain ⟨its2, rv2, p2⟩ := Src.of I1 hqy
  have lt1 := Src.lt p1
  have lt2 := Src.lt p2
  refine zip_begins2 (S.begins its.toArray) (T.begins its2.toArray) p1 p2 fun h' hz hTI hTO h1 h2 hsz hk => wpAny_pyIter_zip hz ?_
  have I2 : Inv X pins σ H1 { s1 with heap := h' } := I1.kept (t' := s1.toks) hk
  have D : ZipSep2 (s1.heap.objs.size + 4) (s1.heap.objs.size + 2) (s1.heap.objs.size + 3) s1.heap.objs.size (s1.heap.objs.size + 1) [s1.heap.objs.size, S.ad] [s1.heap.objs.size + 1, T.ad] :=
    zip_sep2 (fun b hb => by rw [List.mem_singleton.mp hb]; exact lt1) (fun b hb => by rw [List.mem_singleton.mp hb]; exact lt2)
  exact ⟨s1.heap.objs.size + 4, [s1.heap.objs.size + 4, s1.heap.objs.size + 2, s1.heap.objs.size + 3, s1.heap.objs.size, s1.heap.objs.size + 1], _, _, H1, rfl, I2, turn_zipS D (Nat.ne_of_lt lt1) (Nat.ne_of_lt (Nat.lt_succ_of_lt lt2)), ⟨hz, hTI, ⟨_, _, hTO⟩, Src.itr0 h1, Src.itr0 h2⟩, fresh5, q⟩

/-! ### the mirrors -/
def seqD : D → Option (List D)
  | .lst xs => some xs
  | .tup xs => some xs
  | .ct xs => some xs
  | _ => none
def enumL : Nat → List D → List D
  | _, [] => []
  | n, d :: ds => .tup [.int (n : Int), d] :: enumL (n + 1) ds
def zipL : List D → List D → List D
  | a :: as, b :: bs => .tup [a, b] :: zipL as bs
  | _, _ => []
def iEnum (m : Env' → M D) : Env' → M (List D) := fun ρ S => (m ρ S).bind fun r => (seqD r.1).bind fun ds => some (enumL 0 ds, r.2)
def iZip (m m' : Env' → M D) : Env' → M (List D) := fun ρ S => (m ρ S).bind fun r => (m' ρ r.2).bind fun q => (seqD r.1).bind fun as => (seqD q.1).bind fun bs => some (zipL as bs, q.2)
theorem enumL_length : ∀ (ds : List D) (n : Nat), (enumL n ds).length = ds.length
  | [], _ => rfl
  | _ :: ds, n => by simp [enumL, enumL_length ds (n + 1)]
theorem enumL_get : ∀ (ds : List D) (n i : Nat) (d : D), (enumL n ds)[i]? = some d → ∃ e, ds[i]? = some e ∧ d = .tup [.int ((n + i : Nat) : Int), e]
  | [], _, _, _, h => by simp [enumL] at h
  | e :: ds, n, 0, d, h => by
    simp [enumL] at h
    exact ⟨e, rfl, h.symm⟩
  | _ :: ds, n, i + 1, d, h => by
    obtain ⟨e, h1, h2⟩ := enumL_get ds (n + 1) i d (by simpa [enumL] using h)
    exact ⟨e, by simpa using h1, by rw [h2]; congr 4; omega⟩
theorem zipL_length : ∀ as bs : List D, (zipL as bs).length = min as.length bs.length
  | [], _ => by simp [zipL]
  | _ :: _, [] => by simp [zipL]
  | _ :: as, _ :: bs => by simp [zipL, zipL_length as bs]
theorem zipL_get : ∀ (as bs : List D) (i : Nat) (d : D), (zipL as bs)[i]? = some d → ∃ a b, as[i]? = some a ∧ bs[i]? = some b ∧ d = .tup [a, b]
  | [], _, _, _, h => by simp [zipL] at h
  | _ :: _, [], _, _, h => by simp [zipL] at h
  | a :: as, b :: bs, 0, d, h => by
    simp [zipL] at h
    exact ⟨a, b, rfl, rfl, h.symm⟩
  | _ :: as, _ :: bs, i + 1, d, h => by
    obtain ⟨a, b, h1, h2, h3⟩ := zipL_get as bs i d (by simpa [zipL] using h)
    exact ⟨a, b, by simpa using h1, by simpa using h2, h3⟩
section
variable {X : Cx} {a b : Expr} {ma mb : Env' → M D} {K : PySem.W.Frag} {G : Gh} {H : Hp}
theorem src_of {v : V} {d : D} {ds : List D} (r : Rp K G H v d) (h : seqD d = some ds) : ∃ (S : Src) (xs : List V), v = .ref S.ad ∧ xs.length ≤ sizeLine ∧ ∀ G' H', Pers K G H G' H' → ∃ xs', S.Sq K H' xs' ∧ RpA K G' H' xs' ds := by
  cases d with
  | tup ys =>
    cases h
    obtain ⟨p, xs, rfl, h1, h2, h3⟩ := r.tup_
    exact ⟨.t p, xs, rfl, h2, fun G' H' q => ⟨xs, q.t _ _ h1, h3.pers q⟩⟩
  | ct ys =>
    cases h
    obtain ⟨p, xs, rfl, h1, h2, h3⟩ := r.ct_
    exact ⟨.t p, xs, rfl, h2, fun G' H' q => ⟨xs, q.t _ _ h1, h3.pers q⟩⟩
  | lst ys =>
    cases h
    obtain ⟨p, xs, rfl, h0, h1, h2, h3⟩ := r.lst_
    exact ⟨.l p, xs, rfl, h2, fun G' H' q => ⟨xs, SqL.of (q.l _ _ h0 h1).2, h3.pers q⟩⟩
  | _ => cases h
theorem seqD_len {v : V} {d : D} {ds : List D} (r : Rp K G H v d) (h : seqD d = some ds) : ds.length ≤ sizeLine := by
  cases d with
  | tup ys =>
    cases h
    obtain ⟨p, xs, rfl, h1, h2, h3⟩ := r.tup_
    rw [← h3.length]; exact h2
  | ct ys =>
    cases h
    obtain ⟨p, xs, rfl, h1, h2, h3⟩ := r.ct_
    rw [← h3.length]; exact h2
  | lst ys =>
    cases h
    obtain ⟨p, xs, rfl, h0, h1, h2, h3⟩ := r.lst_
    rw [← h3.length]; exact h2
  | _ => cases h
theorem ji_enum {p pos tpos : Pos} {elts : List Expr} {kk : Nat} (hg : Gl X "enumerate") (hm : X.mg "enumerate" = none) (ha : JE X a ma) (hs : starEach [a] X.env = [(false, eval a X.env)] := by rfl) :
    JI X (.Tuple elts kk tpos) (.Call (.Name "enumerate" p) [a] [] pos) (iEnum ma) := pi_mono (pi_enumS hg hm (ja_cons ha ja_nil hs) hs) fun σ H R ⟨G, ρ, S, ds, S', r, g, e, k⟩ => by
  obtain ⟨⟨d, S1⟩, e1, e⟩ := bnd e
  obtain ⟨zs, e2, e⟩ := bnd e
  cases e
  refine ⟨G, ρ, S, [d], S1, r, g, by simp [aCons, aNil, e1], fun G1 vs H1 x1 g1 r0 => ?_⟩
  obtain ⟨v, rfl, r1⟩ := rpa1 r0
  obtain ⟨Sr, xs, rfl, hz, q⟩ := src_of r1 e2
  obtain ⟨xs1, q1, _⟩ := q G1 H1 Pers.refl
  refine ⟨Sr, xs1, rfl, q1, k G1 _ H1 x1 g1 (by rw [enumL_length]; exact seqD_len r1 e2) fun G2 H2 p2 i => ?_⟩
  obtain ⟨ys, q3, q4⟩ := q G2 H2 p2
  refine ⟨fun hi => ⟨ys, q3, by rw [q4.length, ← hi, enumL_length]⟩, fun d' hd => ?_⟩
  obtain ⟨e', h1, rfl⟩ := enumL_get _ _ _ _ hd
  obtain ⟨v, h3, h4⟩ := q4.get h1
  refine ⟨⟨ys, v, q3, h3⟩, fun x H' hy => ?_⟩
  obtain ⟨T, y, rfl, hT, rfl, hy⟩ := hy
  have e3 := hy ys q3
  rw [h3] at e3
  cases e3
  refine ⟨.inr ⟨T, _, hT, rfl⟩, .tup upd_same (by show 2 ≤ sizeLine; decide) ?_⟩
  have pn : Pers X.K G2 H2 G2 (L2.upd H2 T (.tup [.int (i : Nat), v])) := Pers.new hT
  exact .cons (by rw [Nat.zero_add]; exact .int _) (.cons (h4.pers pn) .nil)
theorem ji_zip {p pos tpos : Pos} {elts : List Expr} {kk : Nat} (hg : Gl X "zip") (hm : X.mg "zip" = none) (ha : JE X a ma) (hb : JE X b mb)
    (hs : starEach [a, b] X.env = (false, eval a X.env) :: starEach [b] X.env := by rfl) (hs2 : starEach [b] X.env = [(false, eval b X.env)] := by rfl) (hpl : (backTo pos (starEach [b] X.env)).any (·.1) = false := by rfl) :
    JI X (.Tuple elts kk tpos) (.Call (.Name "zip" p) [a, b] [] pos) (iZip ma mb) := pi_mono (pi_zipS hg hm (ja_cons ha (ja_cons hb ja_nil hs2) hs) hs hpl) fun σ H R ⟨G, ρ, S, ds, S', r, g, e, k⟩ => by
  obtain ⟨⟨d, S1⟩, e1, e⟩ := bnd e
  obtain ⟨⟨d', S2⟩, e2, e⟩ := bnd e
  obtain ⟨as, e3, e⟩ := bnd e
  obtain ⟨bs, e4, e⟩ := bnd e
  cases e
  refine ⟨G, ρ, S, [d, d'], S2, r, g, by simp [aCons, aNil, e1, e2], fun G1 vs H1 x1 g1 r0 => ?_⟩
  obtain ⟨v, v', rfl, r1, r2⟩ := rpa2 r0
  obtain ⟨Sr, xs, rfl, hz, q⟩ := src_of r1 e3
  obtain ⟨Tr, ys, rfl, hz', q'⟩ := src_of r2 e4
  obtain ⟨xs1, q1, _⟩ := q G1 H1 Pers.refl
  obtain ⟨ys1, q1', _⟩ := q' G1 H1 Pers.refl
  refine ⟨Sr, Tr, xs1, ys1, rfl, q1, q1', k G1 _ H1 x1 g1 (by rw [zipL_length]; exact Nat.le_trans (Nat.min_le_left _ _) (seqD_len r1 e3)) fun G2 H2 p2 i => ?_⟩
  obtain ⟨xs2, q3, q4⟩ := q G2 H2 p2
  obtain ⟨ys2, q5, q6⟩ := q' G2 H2 p2
  refine ⟨fun hi => ⟨xs2, ys2, q3, q5, ?_, ?_, ?_⟩, fun d' hd => ?_⟩
  · rw [q4.length, ← hi, zipL_length]; exact Nat.min_le_left _ _
  · rw [q6.length, ← hi, zipL_length]; exact Nat.min_le_right _ _
  · rw [q4.length, q6.length, ← hi, zipL_length]; omega
  obtain ⟨a', b', h1, h2, rfl⟩ := zipL_get _ _ _ _ hd
  obtain ⟨v, h3, h4⟩ := q4.get h1
  obtain ⟨v', h5, h6⟩ := q6.get h2
  refine ⟨⟨xs2, ys2, v, v', q3, q5, h3, h5⟩, fun x H' hy => ?_⟩
  obtain ⟨T, y, y', rfl, hT, rfl, hy, hy'⟩ := hy
  have e3 := hy xs2 q3
  rw [h3] at e3
  cases e3
  have e4 := hy' ys2 q5
  rw [h5] at e4
  cases e4
  refine ⟨.inr ⟨T, _, hT, rfl⟩, .tup upd_same (by show 2 ≤ sizeLine; decide) ?_⟩
  have pn : Pers X.K G2 H2 G2 (L2.upd H2 T (.tup [v, v'])) := Pers.new hT
  exact .cons (h4.pers pn) (.cons (h6.pers pn) .nil)
end
end J
end
section
set_option Elab.async false
set_option linter.all false
set_option maxRecDepth 100000
/-! J8: len(set(..)) of texts and of a text's signs. Own work. -/
namespace J
open PySem PySem.Spec PyProof.Rows

/-- how many of the first i are met for the first time -/
def cntS (xs : List Str) : Nat → Nat
  | 0 => 0
  | i + 1 => if (xs.take i).any (· == xs.getD i Str.empty) then cntS xs i else cntS xs i + 1
theorem cntS_le (xs : List Str) : ∀ i, cntS xs i ≤ i
  | 0 => Nat.le_refl _
  | i + 1 => by
    have := cntS_le xs i
    simp only [cntS]
    split <;> omega
theorem take_any {xs : List Str} {i : Nat} (h : i < xs.length) (k : Str) : (xs.take (i + 1)).any (· == k) = ((xs.take i).any (· == k) || decide (k = xs.getD i Str.empty)) := by
  have e1 : xs.getD i Str.empty = xs[i] := by
    rw [List.getD_eq_getElem?_getD, List.getElem?_eq_getElem h]; rfl
  rw [List.take_succ, List.getElem?_eq_getElem h, List.any_append, e1]
  congr 1
  simp only [Option.toList_some, List.any_cons, List.any_nil, Bool.or_false]
  by_cases e : xs[i] = k
  · subst e; simp
  · have hb : (xs[i] == k) = false := by simpa [beq_iff_eq] using e
    rw [hb]
    exact (decide_eq_false fun h' => e h'.symm).symm
section
variable {prog : Program} {w : World} {A : Around} {R : Result → Shared → Prop} {I : Addr} {fp wr : List Addr} {G : Array GenState → Array GenState → Prop} {n : Nat} {P : Nat → Value → Prop} {St : Nat → Shared → Prop}
theorem setLoopS (W : WalksS prog w A.in1 I fp wr G n P St) (S : Addr) (hSf : S ∉ fp) (xs : List Str) (hsz : xs.length = n) (hn : n < 4000)
    (hval : ∀ i v, P i v → ∃ t, v = .str (xs.getD i Str.empty) t) :
    ∀ (k i : Nat) (s : Shared), n - i = k → i ≤ n → St i s →
      s.heap.SetOf (PySem.strKind prog w) S (fun k' => (xs.take i).any (· == k')) (cntS xs i) →
      (∀ s', Moved (S :: wr) G s s' → s'.heap.SetOf (PySem.strKind prog w) S (fun k' => (xs.take n).any (· == k')) (cntS xs n) → R (.ok (.ret .none)) s') →
      codeAny (model prog w) A (.builtin "set.update.loop" ⟨[.ref S, .ref I], []⟩) R s := by
  have hSw : S ∉ wr := fun h => hSf (W.sub _ h)
  have hsub : ∀ b ∈ wr, b ∈ S :: wr := fun b hb => List.mem_cons_of_mem _ hb
  intro k
  induction k with
  | zero =>
    intro i s hk hi hst hS hR
    have hin : i = n := by omega
    subst hin
    refine codeAny_builtin PyProof.Rows.F.entry_set_update_loop ?_
    rw [Around.under_plainId PyProof.Rows.F.plain_set_update_loop _]
    show wpAny _ A.in1 (pyNext (.ref I) >>= _) _ _ s
    refine wpAny_bind (W.done s _ _ hst fun s' hm => ?_)
    show wpAny _ A.in1 (ret Value.none) _ _ s'
    exact wpAny_pure (hR s' (hm.mono hsub) (by
      obtain ⟨o, es, ep, t, ho, rest⟩ := hS
      exact ⟨o, es, ep, t, hm.heap S _ hSw ho, rest⟩))
  | succ k ih =>
    intro i s hk hi hst hS hR
    have hlt : i < n := by omega
    refine codeAny_builtin PyProof.Rows.F.entry_set_update_loop ?_
    rw [Around.under_plainId PyProof.Rows.F.plain_set_update_loop _]
    show wpAny _ A.in1 (pyNext (.ref I) >>= _) _ _ s
    refine wpAny_bind (W.item i s _ _ hlt hst fun v s' hP hst' hm => ?_)
    obtain ⟨t, rfl⟩ := hval i v hP
    have hS' : s'.heap.SetOf (PySem.strKind prog w) S (fun k' => (xs.take i).any (· == k')) (cntS xs i) := by
      obtain ⟨o, es, ep, tb, ho, rest⟩ := hS
      exact ⟨o, es, ep, tb, hm.heap S _ hSw ho, rest⟩
    show wpAny _ A.in1 (holding [Value.str (xs.getD i Str.empty) t] (setAdd S (.str (xs.getD i Str.empty) t)) >>= _) _ _ s'
    refine wpAny_bind (wpAny_holding ?_)
    unfold setAdd
    refine wpAny_holding ?_
    refine wpAny_bind ((PySem.strKind prog w).pyHash (k := xs.getD i Str.empty) (strKind_is _ _ _ _) ?_)
    refine wpAny_setAddHashed_of (knd := PySem.strKind prog w) (s := { s' with toks := s'.toks + 1 }) (strKind_is _ _ _ _) rfl hS' (by have := cntS_le xs i; unfold scanBound; omega) fun h' hsb hS2 => ?_
    have hSi : h'.SetOf (PySem.strKind prog w) S (fun k' => (xs.take (i + 1)).any (· == k')) (cntS xs (i + 1)) :=
      SetOf_congr hS2 (fun k' => (take_any (by rw [hsz]; exact hlt) k').symm) rfl
    refine wpAny_pure ⟨plainId_quiet PyProof.Rows.F.plain_set_update_loop _, ih (i + 1) _ (by omega) hlt (W.frame _ s' _ _ hst' (Nat.le_succ _) fun b hb o e => ?_) hSi fun s'' hm'' hS'' => ?_⟩
    · rw [hsb.2 b (fun h : b = S => hSf (by rw [← h]; exact hb))]; exact e
    · refine hR s'' (Moved.trans W.gtrans ((hm.mono hsub).then_heap (Nat.le_succ _) fun b o hb e => ?_) hm'') hS''
      rw [hsb.2 b (fun h : b = S => hb (by rw [h]; exact List.mem_cons_self))]; exact e
end
section
variable {prog : Program} {w : World} {A : Around} {E : Value → Shared → Prop} {s : Shared}
set_option maxHeartbeats 3200000 in
theorem set_listJ {l : Addr} {items : Array Value} {xs : List Str} {Q : Value → Shared → Prop}
    (hh : A.handled = none) (hl : s.heap.IsList l items) (hi : PyProof.Rows.StrsAre items.toList xs) (hn1 : xs.length < 4000)
    (h : ∀ (h' : Heap) (tk : Nat), h'.SetOf (PySem.strKind prog w) s.heap.objs.size (fun k' => (xs.take items.size).any (· == k')) (cntS xs items.size) →
      (∀ b o, b < s.heap.objs.size → s.heap.get? b = some o → h'.get? b = some o) → Q (.ref s.heap.objs.size) { s with heap := h', toks := tk }) :
    wpAny (model prog w) A (call (.type "set") [.ref l]) Q E s := by
  obtain ⟨c, tl, hmro⟩ := PySem.F.called_set.mro
  have hmade := PySem.F.called_set.made
  have hsub := PySem.F.called_set.sub
  refine wpAny_call (codeAny_of_tree ?_)
  show wpAny _ _ (callAny (.type "set") _) _ _ _
  refine wpAny_pure ⟨Code.quiet_builtin _ (by decide +kernel), codeAny_builtin PySem.F.entry_type_call ?_⟩
  rw [Around.under_plain (weight_type_call_type "set" [.ref l] []) rfl]
  have h1 := PySem.F.called_set.notType
  have h2 := PySem.F.called_set.canCreate
  have hct := PySem.F.typeCall_set_1 (.ref l)
  repeat (any_goals (first | assumption | wp_step))
  refine codeAny_mono (code_set_new_1 (.ref l) (E := E) (Q₁ := fun obj s₁ => ∃ led : Bool, obj = .ref s.heap.objs.size ∧ s₁ = { s with heap := s.heap.push { cls := .type "set", dict := none, data := .set #[] 0 (.fresh 0 0 led) } }) fun led => ⟨led, rfl, rfl⟩) fun r s₁ hr => ?_
  cases r with
  | error e => exact hr
  | ok fl =>
    cases fl with
    | ret obj =>
      obtain ⟨led, rfl, rfl⟩ := hr
      have hS : (s.heap.push { cls := .type "set", dict := none, data := .set #[] 0 (.fresh 0 0 led) }).get? s.heap.objs.size = some { cls := .type "set", dict := none, data := .set #[] 0 (.fresh 0 0 led) } := Heap.get?_push_size _ rfl
      have hT : Shared.TypeIs { s with heap := s.heap.push { cls := .type "set", dict := none, data := .set #[] 0 (.fresh 0 0 led) } } (.ref s.heap.objs.size) "set" := ⟨_, hS, rfl⟩
      have hli := PySem.F.called_set.init.lookup
      have hbi := PySem.F.called_set.init.bind (.ref s.heap.objs.size)
      repeat (any_goals (first | assumption | wp_step))
      refine codeAny_mono (codeAny_call_builtin (R := wants (fun r s₂ => r = .none ∧ ∃ h' tk, s₂ = { s with heap := h', toks := tk } ∧
          h'.SetOf (PySem.strKind prog w) s.heap.objs.size (fun k' => (xs.take items.size).any (· == k')) (cntS xs items.size) ∧
          (∀ b o, b < s.heap.objs.size → s.heap.get? b = some o → h'.get? b = some o)) E) PySem.F.called_set.init.plain PySem.F.entry_set_init (check_set_init_1 hT ?_)) fun r₂ s₂ hr₂ => ?_
      · obtain ⟨ol, hol, hcl, nl, hdl⟩ := hl
        obtain ⟨ocls, odict, odata, oslots⟩ := ol
        simp only at hcl hdl
        subst hcl; subst hdl
        have hol' : (s.heap.push { cls := .type "set", dict := none, data := .set #[] 0 (.fresh 0 0 led) }).get? l = some { cls := .type "list", dict := odict, data := .seq items nl, slots := oslots } := Heap.get?_push_of_some _ hol
        have hsls := PySem.F.sub_list_set
        have hslf := PySem.F.sub_list_frozenset
        have hne : (Value.type "list" == Value.type "dict") = false := by decide
        have hl1 : (s.heap.push { cls := .type "set", dict := none, data := .set #[] 0 (.fresh 0 0 led) }).IsList l items := ⟨_, hol', rfl, nl, rfl⟩
        unfold Builtin.«set.__init__» noKeywords Builtin.Frozenset.updateFrom
        generalize hPI : pyIter = PI
        wp_walk
        subst hPI
        refine wpAny_pyIter_list hl1 ?_
        refine wpAny_bind (wpAny_runValue ?_)
        have hlS : l < s.heap.objs.size := Heap.lt_size hol
        have hh3 : A.in1.in1.in1.handled = none := by simp [hh]
        have hneI : l ≠ (s.heap.push { cls := .type "set", dict := none, data := .set #[] 0 (.fresh 0 0 led) }).objs.size := by
          rw [Heap.size_push]; exact Nat.ne_of_lt (Nat.lt_succ_of_lt hlS)
        have hSf : s.heap.objs.size ∉ [(s.heap.push { cls := .type "set", dict := none, data := .set #[] 0 (.fresh 0 0 led) }).objs.size, l] := by
          rw [Heap.size_push]; simp only [List.mem_cons, List.mem_singleton, List.not_mem_nil, or_false, not_or]
          exact ⟨Nat.ne_of_lt (Nat.lt_succ_self _), Nat.ne_of_gt hlS⟩
        have hsz : xs.length = items.size := by rw [← StrsAre.len_eq hi, Array.length_toList]
        have hval : ∀ (i : Nat) (v : Value), items[i]? = some v → ∃ t, v = .str (xs.getD i Str.empty) t := fun i v hv => SS.strs_at hi i v (by rw [Array.getElem?_toList]; exact hv)
        refine setLoopS ((Walks.list hh3 _ l hneI items).toS) s.heap.objs.size
          hSf xs hsz (by rw [← hsz]; exact hn1) hval (items.size - 0) 0 _ (by omega) (Nat.zero_le _)
          ⟨⟨_, Heap.get?_push_size _ rfl, rfl, rfl⟩, (hl1.push _)⟩ ?hS0 ?hR
        case hS0 =>
          have hget : ((s.heap.push { cls := .type "set", dict := none, data := .set #[] 0 (.fresh 0 0 led) }).push { cls := .type "list_iterator", data := .fields #[.ref l, .int 0 0] }).get? s.heap.objs.size
              = some { cls := .type "set", dict := none, data := .set #[] 0 (.fresh 0 0 led) } := Heap.get?_push_of_some _ hS
          exact PyProof.Rows.SetOf_congr ((PyProof.Rows.setObjOf_fresh (knd := PySem.strKind prog w) led).setOf hget (by unfold scanBound; omega)) (fun _ => rfl) rfl
        case hR =>
          intro s' hm hS'
          obtain ⟨h', g', d', tk', os'⟩ := s'
          have eg : g' = s.gens := hm.gens
          have ed : d' = s.drawn := hm.drawn
          have eo : os' = s.os := hm.os
          subst eg; subst ed; subst eo
          show wpAny _ _ _ _ _ _
          refine wpAny_pure ?_
          show wpAny _ _ (ret Value.none) _ _ _
          refine wpAny_pure ⟨rfl, h', tk', rfl, hS', fun b o hb e => ?_⟩
          have hb1 : b ≠ s.heap.objs.size := Nat.ne_of_lt hb
          have hb2 : b ≠ (s.heap.push { cls := .type "set", dict := none, data := .set #[] 0 (.fresh 0 0 led) }).objs.size := by
            rw [Heap.size_push]; exact Nat.ne_of_lt (Nat.lt_succ_of_lt hb)
          exact hm.heap b o (by simp only [List.mem_cons, List.mem_singleton, List.not_mem_nil, or_false, not_or]; exact ⟨hb1, hb2⟩) (Heap.get?_push_of_some _ (Heap.get?_push_of_some _ e))
      · cases r₂ with
        | error e => exact hr₂
        | ok fl₂ =>
          cases fl₂ with
          | ret r =>
            obtain ⟨rfl, h', tk, rfl, hS', hk'⟩ := hr₂
            repeat (any_goals (first | assumption | wp_step))
            exact h _ _ hS' hk'
          | _ => exact hr₂.elim
    | _ => exact hr.elim
def sgn (z : Str) : List Str := z.cps.toList.map fun c => ⟨#[c]⟩
set_option maxHeartbeats 3200000 in
theorem set_strJ {z : Str} {t : Tok} {Q : Value → Shared → Prop}
    (hh : A.handled = none) (hn1 : z.length < 4000)
    (h : ∀ (h' : Heap) (tk : Nat), h'.SetOf (PySem.strKind prog w) s.heap.objs.size (fun k' => ((sgn z).take z.cps.size).any (· == k')) (cntS (sgn z) z.cps.size) →
      (∀ b o, b < s.heap.objs.size → s.heap.get? b = some o → h'.get? b = some o) → Q (.ref s.heap.objs.size) { s with heap := h', toks := tk }) :
    wpAny (model prog w) A (call (.type "set") [.str z t]) Q E s := by
  obtain ⟨c, tl, hmro⟩ := PySem.F.called_set.mro
  have hmade := PySem.F.called_set.made
  have hsub := PySem.F.called_set.sub
  refine wpAny_call (codeAny_of_tree ?_)
  show wpAny _ _ (callAny (.type "set") _) _ _ _
  refine wpAny_pure ⟨Code.quiet_builtin _ (by decide +kernel), codeAny_builtin PySem.F.entry_type_call ?_⟩
  rw [Around.under_plain (weight_type_call_type "set" [.str z t] []) rfl]
  have h1 := PySem.F.called_set.notType
  have h2 := PySem.F.called_set.canCreate
  have hct := PySem.F.typeCall_set_1 (.str z t)
  repeat (any_goals (first | assumption | wp_step))
  refine codeAny_mono (code_set_new_1 (.str z t) (E := E) (Q₁ := fun obj s₁ => ∃ led : Bool, obj = .ref s.heap.objs.size ∧ s₁ = { s with heap := s.heap.push { cls := .type "set", dict := none, data := .set #[] 0 (.fresh 0 0 led) } }) fun led => ⟨led, rfl, rfl⟩) fun r s₁ hr => ?_
  cases r with
  | error e => exact hr
  | ok fl =>
    cases fl with
    | ret obj =>
      obtain ⟨led, rfl, rfl⟩ := hr
      have hS : (s.heap.push { cls := .type "set", dict := none, data := .set #[] 0 (.fresh 0 0 led) }).get? s.heap.objs.size = some { cls := .type "set", dict := none, data := .set #[] 0 (.fresh 0 0 led) } := Heap.get?_push_size _ rfl
      have hT : Shared.TypeIs { s with heap := s.heap.push { cls := .type "set", dict := none, data := .set #[] 0 (.fresh 0 0 led) } } (.ref s.heap.objs.size) "set" := ⟨_, hS, rfl⟩
      have hli := PySem.F.called_set.init.lookup
      have hbi := PySem.F.called_set.init.bind (.ref s.heap.objs.size)
      repeat (any_goals (first | assumption | wp_step))
      refine codeAny_mono (codeAny_call_builtin (R := wants (fun r s₂ => r = .none ∧ ∃ h' tk, s₂ = { s with heap := h', toks := tk } ∧
          h'.SetOf (PySem.strKind prog w) s.heap.objs.size (fun k' => ((sgn z).take z.cps.size).any (· == k')) (cntS (sgn z) z.cps.size) ∧
          (∀ b o, b < s.heap.objs.size → s.heap.get? b = some o → h'.get? b = some o)) E) PySem.F.called_set.init.plain PySem.F.entry_set_init (check_set_init_1 hT ?_)) fun r₂ s₂ hr₂ => ?_
      · have hsls := PySem.F.sub_str_set
        have hslf := PySem.F.sub_str_frozenset
        have hne : (Value.type "str" == Value.type "dict") = false := by decide
        unfold Builtin.«set.__init__» noKeywords Builtin.Frozenset.updateFrom
        generalize hPI : pyIter = PI
        wp_walk
        subst hPI
        refine wpAny_pyIter_str fun o St W hst => ?_
        refine wpAny_bind (wpAny_runValue ?_)
        have hh3 : A.in1.in1.in1.handled = none := by simp [hh]
        have hSf : s.heap.objs.size ∉ [(s.heap.push { cls := .type "set", dict := none, data := .set #[] 0 (.fresh 0 0 led) }).objs.size] := by
          rw [Heap.size_push]; simp only [List.mem_singleton]
          exact Nat.ne_of_lt (Nat.lt_succ_self _)
        have hsz : (sgn z).length = z.cps.size := by simp [sgn]
        have hval : ∀ (i : Nat) (v : Value), SignAt z i v → ∃ t, v = .str ((sgn z).getD i Str.empty) t := fun i v hv => by
          obtain ⟨c, u, h1, rfl⟩ := hv
          refine ⟨u, ?_⟩
          have e : (sgn z)[i]? = some ⟨#[c]⟩ := by simp [sgn, h1]
          rw [List.getD_eq_getElem?_getD, e]; rfl
        refine setLoopS ((W _ hh3).toS) s.heap.objs.size
          hSf (sgn z) hsz hn1 hval (z.cps.size - 0) 0 _ (by omega) (Nat.zero_le _) hst ?hS0 ?hR
        case hS0 =>
          exact PyProof.Rows.SetOf_congr ((PyProof.Rows.setObjOf_fresh (knd := PySem.strKind prog w) led).setOf (Heap.get?_push_of_some _ hS) (by unfold scanBound; omega)) (fun _ => rfl) rfl
        case hR =>
          intro s' hm hS'
          obtain ⟨h', g', d', tk', os'⟩ := s'
          have eg : g' = s.gens := hm.gens
          have ed : d' = s.drawn := hm.drawn
          have eo : os' = s.os := hm.os
          subst eg; subst ed; subst eo
          show wpAny _ _ _ _ _ _
          refine wpAny_pure ?_
          show wpAny _ _ (ret Value.none) _ _ _
          refine wpAny_pure ⟨rfl, h', tk', rfl, hS', fun b o hb e => ?_⟩
          have hb1 : b ≠ s.heap.objs.size := Nat.ne_of_lt hb
          have hb2 : b ≠ (s.heap.push { cls := .type "set", dict := none, data := .set #[] 0 (.fresh 0 0 led) }).objs.size := by
            rw [Heap.size_push]; exact Nat.ne_of_lt (Nat.lt_succ_of_lt hb)
          exact hm.heap b o (by simp only [List.mem_cons, List.mem_singleton, List.not_mem_nil, or_false, not_or]; exact ⟨hb1, hb2⟩) (Heap.get?_push_of_some _ (Heap.get?_push_of_some _ e))
      · cases r₂ with
        | error e => exact hr₂
        | ok fl₂ =>
          cases fl₂ with
          | ret r =>
            obtain ⟨rfl, h', tk, rfl, hS', hk'⟩ := hr₂
            repeat (any_goals (first | assumption | wp_step))
            exact h _ _ hS' hk'
          | _ => exact hr₂.elim
    | _ => exact hr.elim
end
end J
end
section
set_option Elab.async false
set_option linter.all false
set_option maxRecDepth 100000
set_option maxHeartbeats 2000000
/-! J9: sum, list, isinstance, len(set(..)), repr, sorted of pairs, +=. Own work. -/
namespace J
open PySem PySem.Spec PyProof.Rows L2
section
variable {X : Cx}

/-! ### sum -/
theorem preSum_vals (ns : List Int) : ∀ n, n ≤ ns.length → preSum (fun i => ns.getD i 0) n = (ns.take n).sum
  | 0, _ => rfl
  | n + 1, h => by
    have e : ns.getD n 0 = ns[n] := by rw [List.getD_eq_getElem?_getD, List.getElem?_eq_getElem h]; rfl
    show preSum _ n + ns.getD n 0 = _
    rw [preSum_vals ns n (Nat.le_of_succ_le h), e, List.take_succ, List.getElem?_eq_getElem h, List.sum_append]
    simp
def rSumT (K : PySem.W.Frag) : List V → Hp → VK → Prop := fun vs H Q => ∃ (a : Addr) (ns : List Int), vs = [V.ref a] ∧ SqT K H a (ns.map V.int) ∧ Q (.int ns.sum) H
theorem cr_sumT (hc : X.calm = true) : CallR X (.builtin "sum") (rSumT X.K) := by
  intro pins s σ H vs us Q I r h
  obtain ⟨a, ns, rfl, hs, q⟩ := h
  obtain ⟨its, rv, hl, _⟩ := I.tuple hs
  rw [Vals.ref1 r]
  have hlt : a < s.heap.objs.size := by obtain ⟨o, ho, _⟩ := id hl; exact Heap.lt_size ho
  have hlen : its.toArray.size = ns.length := by rw [List.size_toArray, ← rv.length, List.length_map]
  refine call_sum_walkG (wpAny_pyIter_tuple hl ?_)
  refine ⟨s.heap.objs.size, _, _, _, _, _, fun i => ns.getD i 0, rfl, Walks.tuple (show X.A.in1.handled = none from I.ok.hd hc) s.heap.objs.size a (Nat.ne_of_lt hlt) its.toArray, ⟨⟨_, Heap.get?_push_size _ rfl, rfl, rfl⟩, hl.push _⟩, ?_, ?_, ?_⟩
  · intro b hb
    have hz : (s.heap.push { cls := .type "tuple_iterator", data := .fields #[.ref a, .int 0 0] }).objs.size = s.heap.objs.size + 1 := Heap.size_push ..
    rw [hz]
    have e' : b = s.heap.objs.size ∨ b = a := by simpa using hb
    rcases e' with z | z
    · rw [z]; exact Nat.lt_succ_self _
    · rw [z]; exact Nat.lt_succ_of_lt hlt
  · intro i v hv
    have hv' : its[i]? = some v := by simpa using hv
    have hi : i < ns.length := by
      have := (List.getElem?_eq_some_iff.mp hv').1
      rw [← hlen]; simpa using this
    obtain ⟨u, hu, t, hu'⟩ := rv.get (i := i) (x := .int ns[i]) (by simp [hi])
    rw [hv'] at hu
    cases hu
    refine ⟨t, ?_⟩
    rw [hu']
    show _ = Value.int (ns.getD i 0) t
    rw [List.getD_eq_getElem?_getD, List.getElem?_eq_getElem hi]; rfl
  · intro h' tk t' hk
    refine ⟨.int ns.sum, H, I.kept fun b o e => hk b o (fun hm => Nat.ne_of_lt (Heap.lt_size e) (List.mem_singleton.mp hm)) (Heap.get?_push_of_some _ e), ⟨t', ?_⟩, q⟩
    rw [hlen, preSum_vals ns _ (Nat.le_refl _), List.take_length]
abbrev rSumJ (K : PySem.W.Frag) : List V → Hp → VK → Prop := fun vs H Q => rSum K vs H Q ∨ rSumT K vs H Q
theorem call_sumJ (hc : X.calm = true) : CallR X (.builtin "sum") (rSumJ X.K) := (cr_sum hc).or (cr_sumT hc)
def fSum : List D → Option D
  | [.lst xs] => (intsD xs).map fun ns => .int ns.sum
  | [.tup xs] => (intsD xs).map fun ns => .int ns.sum
  | _ => none
theorem ref_sum {K : PySem.W.Frag} : RefN K (rSumJ K) fSum := by
  intro G S H xs ds z Q g r h k
  match ds, h with
  | [.lst ys], h =>
    simp only [fSum, Option.map_eq_some_iff] at h
    obtain ⟨ns, h1, rfl⟩ := h
    obtain ⟨v, rfl, q1⟩ := rpa1 r
    obtain ⟨a, xs, rfl, _, hx, zx, rx'⟩ := q1.lst_
    rw [intsD_inv h1] at rx'
    rw [rx'.ints] at hx
    exact .inl ⟨a, ns, rfl, SqL.of hx, k.here g (.int _)⟩
  | [.tup ys], h =>
    simp only [fSum, Option.map_eq_some_iff] at h
    obtain ⟨ns, h1, rfl⟩ := h
    obtain ⟨v, rfl, q1⟩ := rpa1 r
    obtain ⟨a, xs, rfl, hx, zx, rx'⟩ := q1.tup_
    rw [intsD_inv h1] at rx'
    rw [rx'.ints] at hx
    exact .inr ⟨a, ns, rfl, hx, k.here g (.int _)⟩

/-! ### list -/
def rListS : List V → Hp → VK → Prop := fun xs H Q => ∃ z : Str, xs = [.str z] ∧ z.length ≤ sizeLine ∧ ∀ l, H l = none → Q (.ref l) (upd H l (.lst ((sgn z).map V.str)))
theorem call_listS (hc : X.calm = true) : CallR X (.type "list") rListS := by
  intro pins s σ H xs us Q I r h
  obtain ⟨z, rfl, hz, q⟩ := h
  obtain ⟨u, rfl, t, rfl⟩ := vals1 r
  refine call_list_str (I.ok.hd hc) z t (hn := hz) fun h' tk acc' c' hk hS' hacc => ?_
  have hlen : ((sgn z).map V.str).length = acc'.toList.length := by
    have e := hacc.1
    simp only [Array.length_toList, List.length_map, sgn, e]
  have hv : Vals ((sgn z).map V.str) acc'.toList := vals_of_at hlen fun j x u hx hu => by
    obtain ⟨c, t', h1, rfl⟩ := hacc.2 j u (by simpa using hu)
    have e : ((sgn z).map V.str)[j]? = some (.str ⟨#[c]⟩) := by simp [sgn, h1]
    rw [hx] at e
    cases e
    exact ⟨t', rfl⟩
  refine ⟨.ref s.heap.objs.size, upd H s.heap.objs.size (.lst ((sgn z).map V.str)), I.laid hk (Nat.le_refl _) (show ObjOk X.prog X.w _ h' _ (.lst ((sgn z).map V.str)) from ⟨?_, acc'.toList, c', hv, by simpa using hS'⟩), rfl, q _ (I.hok.fresh (Nat.le_refl _))⟩
  have e : ((sgn z).map V.str).length = z.length := by simp [sgn, Str.length]
  rw [e]; exact hz
abbrev rListJ (K : PySem.W.Frag) : List V → Hp → VK → Prop := fun xs H Q => (fun xs H Q => ∃ p ys, xs = [.ref p] ∧ (SqL K H p ys ∨ SqT K H p ys) ∧ ∀ l, H l = none → Q (.ref l) (upd H l (.lst ys))) xs H Q ∨ rListS xs H Q
theorem call_listJ (hc : X.calm = true) : CallR X (.type "list") (rListJ X.K) := call_list_of.or (call_listS hc)
def fList : List D → Option D
  | [.lst xs] => some (.lst xs)
  | [.tup xs] => some (.lst xs)
  | [.str z] => if z.length ≤ sizeLine then some (.lst ((sgn z).map D.str)) else none
  | _ => none
theorem ref_list {K : PySem.W.Frag} : RefN K (rListJ K) fList := by
  intro G S H xs ds z Q g r h k
  match ds, h with
  | [.lst ys], h =>
    cases h
    obtain ⟨v, rfl, q1⟩ := rpa1 r
    obtain ⟨a, xs, rfl, _, hx, zx, rx'⟩ := q1.lst_
    exact .inl ⟨a, xs, rfl, .inl (SqL.of hx), k.newL g zx rx'⟩
  | [.tup ys], h =>
    cases h
    obtain ⟨v, rfl, q1⟩ := rpa1 r
    obtain ⟨a, xs, rfl, hx, zx, rx'⟩ := q1.tup_
    exact .inl ⟨a, xs, rfl, .inr hx, k.newL g zx rx'⟩
  | [.str x], h =>
    obtain ⟨h1, rfl⟩ := ifs h
    obtain ⟨v, rfl, q1⟩ := rpa1 r
    refine .inr ⟨x, by rw [q1.str_], h1, k.newL g ?_ (RpA.ofStrs _)⟩
    have e : ((sgn x).map V.str).length = x.length := by simp [sgn, Str.length]
    rw [e]; exact h1

/-! ### isinstance -/
inductive TyN where
  | int | bool | str | tuple | list | dict
  deriving DecidableEq
def TyN.nm : TyN → String
  | .int => "int" | .bool => "bool" | .str => "str" | .tuple => "tuple" | .list => "list" | .dict => "dict"
/-- what it is -/
inductive TyD where
  | non | bool | int | str | tuple | list | dict
def TyD.nm : TyD → String
  | .non => "NoneType" | .bool => "bool" | .int => "int" | .str => "str" | .tuple => "tuple" | .list => "list" | .dict => "dict"
def isiT : TyN → TyD → Bool
  | .int, .int => true | .int, .bool => true | .bool, .bool => true | .str, .str => true | .tuple, .tuple => true | .list, .list => true | .dict, .dict => true
  | _, _ => false
def dTy (S : Sto) : D → TyD
  | .non => .non | .bl _ => .bool | .int _ => .int | .str _ => .str | .tup _ => .tuple | .ct _ => .tuple | .lst _ => .list | .cl _ => .list
  | .ob n => match S[n]? with
    | some (.lst _) => .list
    | some _ => .dict
    | none => .non
theorem kitB_isi (n : TyN) (d : TyD) : kitB d.nm n.nm = some (isiT n d) := by
  cases d <;> cases n <;> first | rfl | decide +kernel
def isiB (S : Sto) (n : TyN) (d : D) : Bool := isiT n (dTy S d)
/-- isinstance -/
def eIsi (n : TyN) (a : Env' → M D) : Env' → M D := fun ρ S => (a ρ S).bind fun r => some (.bl (isiB r.2 n r.1), r.2)
theorem rp_ty {K : PySem.W.Frag} {G : Gh} {S : Sto} {H : Hp} {v : V} {d : D} (g : Good K G S H) (r : Rp K G H v d) : TyX K H v (.type (dTy S d).nm) := by
  have tt : ∀ {a xs}, SqT K H a xs → TyX K H (.ref a) (.type "tuple") := fun {a xs} h => by
    rcases h with (h | ⟨o, h⟩) | ⟨o, its, dd, h, hc, rest⟩
    · exact .base (.tup h)
    · exact .fTuple h
    · exact .kTuple h hc
  cases d with
  | non => rw [r.non_]; exact .base .non
  | bl b => rw [r.bl_]; exact .base (.bl b)
  | int i => rw [r.int_]; exact .base (.int i)
  | str x => rw [r.str_]; exact .base (.str x)
  | tup ds =>
    obtain ⟨a, xs, rfl, h, _, _⟩ := r.tup_
    exact tt h
  | ct ds =>
    obtain ⟨a, xs, rfl, h, _, _⟩ := r.ct_
    exact tt h
  | cl ds =>
    obtain ⟨a, xs, rfl, h, _, _⟩ := r.cl_
    rcases h with ⟨o, h⟩ | ⟨o, its, dd, h, hc, rest⟩
    · exact .base (.frz h)
    · exact .kList h hc
  | lst ds =>
    obtain ⟨a, xs, rfl, _, h, _, _⟩ := r.lst_
    exact .base (.lst h)
  | ob n =>
    obtain ⟨p, rfl, h⟩ := r.ob_
    have hlt : n < S.length := by rw [← g.len]; exact (List.getElem?_eq_some_iff.mp h).1
    have hS : S[n]? = some S[n] := List.getElem?_eq_getElem hlt
    have hc := g.cell n p S[n] h hS
    have e : ∀ c, S[n] = c → (dTy S (.ob n)) = (match some c with
      | some (Cell.lst _) => TyD.list
      | some _ => .dict
      | none => .non) := fun c ec => by simp only [dTy, hS, ec]
    cases hS2 : S[n] with
    | lst l => rw [hS2] at hc; obtain ⟨vs, h1, _⟩ := hc; rw [e _ hS2]; exact .base (.lst h1)
    | dK l => rw [hS2] at hc; obtain ⟨vs, h1, _⟩ := hc; rw [e _ hS2]; exact .base (.dK h1)
    | dT l => rw [hS2] at hc; obtain ⟨vs, h1, _⟩ := hc; rw [e _ hS2]; exact .base (.dT h1)
theorem je_isi (n : TyN) {a : Expr} {ma : Env' → M D} {p p2 pos : Pos} (hm : X.mg "isinstance" = none) (hm2 : X.mg n.nm = none) (ha : JE X a ma) (hg : Gl X "isinstance" := by rfl) (hg2 : Gl X n.nm := by rfl) (hb : bootBuiltins "isinstance" = some (.builtin "isinstance") := by rfl)
    (hb2 : bootBuiltins n.nm = some (.type n.nm) := by rfl) (hn : (n.nm : Str) ≠ "__name__" := by decide) (hdb : (((n.nm : String) : Str) == ("__debug__" : Str)) = false := by decide)
    (he : starEach [a, .Name n.nm p2] X.env = (false, eval a X.env) :: starEach [.Name n.nm p2] X.env := by rfl) (he2 : starEach [.Name n.nm p2] X.env = (false, eval (.Name n.nm p2) X.env) :: starEach [] X.env := by rfl)
    (hpl : (backTo pos (starEach [.Name n.nm p2] X.env)).any (·.1) = false := by rfl) : JE X (.Call (.Name "isinstance" p) [a, .Name n.nm p2] [] pos) (eIsi n ma) := by
  refine pe_mono (pe_callB call_isi hg hm hb (pa_cons ha (pa_cons (pe_bltn (v := .ty n.nm) hg2 hm2 hb2 rfl hn hdb) pa_nil he2) he) (by decide) (by decide) he hpl) fun σ H Q ⟨G, ρ, S, d, S', r, g, e, k⟩ => ?_
  obtain ⟨⟨d1, S1⟩, e1, e⟩ := bnd e
  cases e
  refine ⟨G, ρ, S, d1, S1, r, g, e1, fun G1 x H1 x1 g1 r1 => ?_⟩
  exact ⟨x, .ty n.nm, _, _, isiB S1 n d1, rfl, .ty _, rp_ty g1 r1, kit_ty (kitB_isi n _), k G1 _ H1 x1 g1 (.bl _)⟩

/-! ### len(set(..)) -/
def dLenSet : D → Option D
  | .lst xs => (strsD xs).bind fun ys => if ys.length < 4000 then some (.int (cntS ys ys.length : Nat)) else none
  | .str z => if z.length < 4000 then some (.int (cntS (sgn z) (sgn z).length : Nat)) else none
  | _ => none
theorem je_lenSet {a : Expr} {ma : Env' → M D} {p p2 q pos : Pos} (hc : X.calm = true) (hm : X.mg "len" = none) (hm2 : X.mg "set" = none) (ha : JE X a ma) (hg : Gl X "len" := by rfl) (hg2 : Gl X "set" := by rfl)
    (na : starEach [a] X.env = (false, eval a X.env) :: starEach [] X.env := by rfl) : JE X (.Call (.Name "len" p) [.Call (.Name "set" p2) [a] [] q] [] pos) (e1 dLenSet ma) := by
  refine ⟨fun pins s σ H Q I h => ?_⟩
  obtain ⟨G, ρ, S, d, S', r, g, e, k⟩ := h
  obtain ⟨⟨d1, S1⟩, e1, e⟩ := bnd e
  obtain ⟨z, e2, e⟩ := bnd e
  cases e
  refine Call_ (ld_blt I hg hm boot_len ?_)
  refine PyProof.Rows.callWith_builtin1 (PyProof.Rows.args_cons ?_ rfl) rfl rfl
  refine Call_ (ld_blt I hg2 hm2 boot_set ?_)
  refine PyProof.Rows.callWith_type1 (PyProof.Rows.args_cons (thn (ha.run pins s σ H (fun x H1 => ∃ G1, Ext G H G1 H1 ∧ Good X.K G1 S1 H1 ∧ Rp X.K G1 H1 x d1) I ⟨G, ρ, S, d1, S1, r, g, e1, fun G1 x H1 x1 g1 r1 => ⟨G1, x1, g1, r1⟩⟩) fun v s1 ⟨x, H1, I1, rx, G1, x1, g1, r1⟩ => PyProof.Rows.args_nil ?_) na) na rfl
  have fin : ∀ (xs : List Str), xs.length < 4000 → d = .int (cntS xs xs.length : Nat) → ∀ (h' : Heap) (tk : Nat), h'.SetOf (PySem.strKind X.prog X.w) s1.heap.objs.size (fun k' => (xs.take xs.length).any (· == k')) (cntS xs xs.length) →
      (∀ b o, b < s1.heap.objs.size → s1.heap.get? b = some o → h'.get? b = some o) →
      wpAny (model X.prog X.w) X.A (spliced (backTo pos (starEach [] X.env))) (fun vs s₂ => wpAny (model X.prog X.w) X.A (call (.builtin "len") (Value.ref s1.heap.objs.size :: vs)) (EP X pins σ Q) X.xe s₂) X.xe { s1 with heap := h', toks := tk } := fun xs hx hz h' tk hS hk => by
    refine PyProof.Rows.args_nil ?_
    obtain ⟨o, es, ep, t, ho, hex, hd, _, _, _, hf, hn⟩ := hS
    have I2 : Inv X pins σ H1 { s1 with heap := h', toks := tk } := I1.kept fun b o e => hk b o (Heap.lt_size e) e
    have hle := cntS_le xs xs.length
    have hQ : Q (.int (cntS xs xs.length : Nat)) H1 := k G1 _ H1 x1 g1 (by rw [hz]; exact .int _)
    refine call_len_set ho hex hd hf (by rw [hn]; omega) ⟨.int (cntS xs xs.length : Nat), H1, I2.tok _, ⟨_, by rw [hn]⟩, hQ⟩
  match d1, e2, r1 with
  | .lst ys, e2, r1 =>
    obtain ⟨xs, e3, e2⟩ := bnd (show ((strsD ys).bind fun ys => if ys.length < 4000 then some (D.int (cntS ys ys.length : Nat)) else none) = some d from e2)
    obtain ⟨hlt, hz⟩ := ifs e2
    obtain ⟨l, vs, rfl, _, hq, _, r2⟩ := r1.lst_
    rw [strsD_inv e3] at r2
    rw [r2.strs] at hq
    cases (show v = Value.ref l from rx)
    obtain ⟨its, r', pl, _⟩ := I1.list (SqL.of hq)
    have hl : its.toArray.size = xs.length := by rw [List.size_toArray, ← r'.length, List.length_map]
    refine set_listJ (I1.ok.hd hc) pl.isList (by simpa using strsAre_of r') hlt fun h' tk hS hk => fin xs hlt hz.symm h' tk ?_ hk
    rw [hl] at hS
    exact hS
  | .str zz, e2, r1 =>
    obtain ⟨hlt, hz⟩ := ifs (show (if zz.length < 4000 then some (D.int (cntS (sgn zz) (sgn zz).length : Nat)) else none) = some d from e2)
    cases r1.str_
    obtain ⟨t, rfl⟩ := (show ∃ t, v = Value.str zz t from rx)
    have hl : (sgn zz).length = zz.cps.size := by simp [sgn]
    refine set_strJ (I1.ok.hd hc) hlt fun h' tk hS hk => fin (sgn zz) (by rw [hl]; exact hlt) hz.symm h' tk ?_ hk
    rw [hl]
    exact hS

/-! ### repr -/
def fRepr : List D → Option D
  | [.str x] => if (reprText x).length ≤ sizeLine then some (.str (reprText x)) else none
  | [.tup xs] => (toPy (.tup xs)).bind fun p => if p.showable = true ∧ p.hasDict = false ∧ p.depth ≤ 50 ∧ p.shown.length ≤ sizeLine then some (.str p.shown) else none
  | [.lst xs] => (toPy (.lst xs)).bind fun p => if p.showable = true ∧ p.hasDict = false ∧ p.depth ≤ 50 ∧ p.shown.length ≤ sizeLine then some (.str p.shown) else none
  | _ => none
def rReprJ (K : PySem.W.Frag) : List V → Hp → VK → Prop := fun xs H Q => (∃ x, xs = [.str x] ∧ (reprText x).length ≤ sizeLine ∧ Q (.str (reprText x)) H) ∨
  ∃ a p, xs = [.ref a] ∧ Dp K H (.ref a) p ∧ p.showable = true ∧ p.hasDict = false ∧ p.depth ≤ 50 ∧ p.shown.length ≤ sizeLine ∧ Q (.str p.shown) H
theorem call_reprJ (hg : X.A.guards = some []) (hu : X.A.units + 64 < cLine) : CallR X (.builtin "repr") (rReprJ X.K) := by
  intro pins s σ H xs us Q I r h
  rcases h with ⟨x, rfl, hz, q⟩ | ⟨a, p, rfl, hd, h1, h2, h3, h4, q⟩
  · obtain ⟨u, rfl, t, rfl⟩ := vals1 r
    exact PySem.P.repr_of_str ⟨.str _, H, I.tok _, ⟨_, rfl⟩, q⟩ hz
  · rw [Vals.ref1 r]
    obtain ⟨as, r1⟩ := Dp.reads I p (.ref a) (.ref a) hd rfl
    exact repr_of_reads' r1 h1 (PyData.noDict_hsm h2) hg (by omega) (fun _ _ e => e) (fun h' u tk hk => ⟨.str _, H, I.kept hk, ⟨_, rfl⟩, q⟩) h4
theorem ref_repr {K : PySem.W.Frag} : RefN K (rReprJ K) fRepr := by
  intro G S H xs ds z Q g r h k
  match ds, h with
  | [.str x], h =>
    obtain ⟨h1, rfl⟩ := ifs h
    obtain ⟨v, rfl, q1⟩ := rpa1 r
    exact .inl ⟨x, by rw [q1.str_], h1, k.here g (.str _)⟩
  | [.tup ys], h =>
    obtain ⟨p, hp, h⟩ := bnd (show ((toPy (.tup ys)).bind fun p => if p.showable = true ∧ p.hasDict = false ∧ p.depth ≤ 50 ∧ p.shown.length ≤ sizeLine then some (D.str p.shown) else none) = some z from h)
    obtain ⟨⟨h1, h2, h3, h4⟩, rfl⟩ := ifs h
    obtain ⟨v, rfl, q1⟩ := rpa1 r
    obtain ⟨a, xs, rfl, _⟩ := q1.tup_
    exact .inr ⟨a, p, rfl, q1.dp hp, h1, h2, h3, h4, k.here g (.str _)⟩
  | [.lst ys], h =>
    obtain ⟨p, hp, h⟩ := bnd (show ((toPy (.lst ys)).bind fun p => if p.showable = true ∧ p.hasDict = false ∧ p.depth ≤ 50 ∧ p.shown.length ≤ sizeLine then some (D.str p.shown) else none) = some z from h)
    obtain ⟨⟨h1, h2, h3, h4⟩, rfl⟩ := ifs h
    obtain ⟨v, rfl, q1⟩ := rpa1 r
    obtain ⟨a, xs, rfl, _⟩ := q1.lst_
    exact .inr ⟨a, p, rfl, q1.dp hp, h1, h2, h3, h4, k.here g (.str _)⟩
end
end J
end
section
set_option Elab.async false
set_option linter.all false
set_option maxRecDepth 100000
set_option maxHeartbeats 4000000
/-! J10: shared lists and dicts; tuples stored to a name and an own list; sorted of pairs. Own work. -/
namespace J
open PySem PySem.Spec PyProof.Rows L2
section
variable {K : PySem.W.Frag} {G G' : Gh} {S S' : Sto} {H H' : Hp}
/-- a new shared thing -/
def Gh.cellAt (G : Gh) (p : Addr) : Gh := ⟨G.F, G.m ++ [p]⟩
theorem Pers.cellAt {p : Addr} : Pers K G H (G.cellAt p) H := ⟨fun _ _ h => h, fun _ _ h => h, fun _ _ h => h, fun _ _ f h => ⟨f, h⟩, fun n q h => by
  show (G.m ++ [p])[n]? = some q
  rw [List.getElem?_append_left (List.getElem?_eq_some_iff.mp h).1]
  exact h⟩
theorem Good.cellAt (g : Good K G S H) {p : Addr} {c : Cell} (nF : ¬ G.F p) (nf : ¬ G.fp p) (mu : Mut (H p)) (hc : CellOk K (G.cellAt p).m H p c) : Good K (G.cellAt p) (S ++ [c]) H where
  F0 := fun a f => ⟨(g.F0 a f).1, fun z => by
    rcases List.mem_append.mp (show a ∈ G.m ++ [p] from z) with z | z
    · exact (g.F0 a f).2 z
    · rw [List.mem_singleton.mp z] at f
      exact nF f⟩
  len := by
    show (G.m ++ [p]).length = _
    rw [List.length_append, List.length_append, g.len]; rfl
  cell := fun n q d h1 h2 => by
    have h1 : (G.m ++ [p])[n]? = some q := h1
    by_cases e : n < G.m.length
    · rw [List.getElem?_append_left e] at h1
      rw [List.getElem?_append_left (by rw [← g.len]; exact e)] at h2
      exact (g.cell n q d h1 h2).pers (Pers.cellAt (G := Gz G.m)) rfl
    · have hn : n = G.m.length := by
        have := (List.getElem?_eq_some_iff.mp h1).1
        rw [List.length_append, List.length_singleton] at this
        omega
      subst hn
      rw [List.getElem?_append_right (Nat.le_refl _)] at h1
      rw [List.getElem?_append_right (by rw [g.len]; exact Nat.le_refl _), g.len] at h2
      simp at h1 h2
      subst h1 h2
      exact hc
  mt := fun a f => by
    rcases List.mem_append.mp (show a ∈ G.m ++ [p] from f) with z | z
    · exact g.mt a z
    · rw [List.mem_singleton.mp z]; exact mu
  nd := by
    refine List.nodup_append.mpr ⟨g.nd, (by simp), fun a ha b hb e => ?_⟩
    rw [List.mem_singleton.mp hb] at e
    rw [e] at ha
    exact nf ha
theorem Ext.cellAt {p : Addr} {H0 : Hp} {G0 : Gh} (x : Ext G0 H0 G H) (h : H0 p = none) : Ext G0 H0 (G.cellAt p) H := ⟨x.F, x.Fn, by
  obtain ⟨l, e⟩ := x.m
  exact ⟨l ++ [p], by show G.m ++ [p] = _; rw [e, List.append_assoc]⟩, fun a z => by
  rcases List.mem_append.mp (show a ∈ G.m ++ [p] from z) with z | z
  · exact x.fn a z
  · rw [List.mem_singleton.mp z]; exact .inr h, x.keep, x.there⟩
/-- a shared thing is changed -/
theorem Good.cellPut (g : Good K G S H) {n : Nat} {a : Addr} {c : Cell} {o : HO} (h1 : G.m[n]? = some a) (mu : Mut (some o)) (hc : CellOk K G.m (L2.upd H a o) a c) : Good K G (S.set n c) (L2.upd H a o) where
  F0 := fun b f => by
    have ne : b ≠ a := fun e => (g.F0 b f).2 (by rw [e]; exact fp_of h1)
    exact ⟨by rw [upd_ne ne]; exact (g.F0 b f).1, (g.F0 b f).2⟩
  len := by rw [List.length_set]; exact g.len
  cell := fun k q d h2 h3 => by
    by_cases e : n = k
    · subst e
      rw [h1] at h2
      cases h2
      rw [List.getElem?_set] at h3
      simp only [if_true] at h3
      split at h3
      · cases h3; exact hc
      · cases h3
    · rw [List.getElem?_set_ne e] at h3
      have ne : q ≠ a := fun z => by
        subst z
        have b1 := (List.getElem?_eq_some_iff.mp h1)
        have b2 := (List.getElem?_eq_some_iff.mp h2)
        obtain ⟨l1, b1⟩ := b1
        obtain ⟨l2, b2⟩ := b2
        have pw := List.pairwise_iff_getElem.mp g.nd
        rcases Nat.lt_or_gt_of_ne e with c | c
        · exact pw n k l1 l2 c (b1.trans b2.symm)
        · exact pw k n l2 l1 c (b2.trans b1.symm)
      exact (g.cell k q d h2 h3).pers (Pers.put (G := Gz G.m) (.inr (g.mt a (fp_of h1))) id) (upd_ne ne)
  mt := fun b f => by
    by_cases e : b = a
    · subst e; rw [upd_same]; exact mu
    · rw [upd_ne e]; exact g.mt b f
  nd := g.nd
theorem Ext.cellPut {n : Nat} {a : Addr} {o : HO} (h1 : G.m[n]? = some a) : Ext G H G (L2.upd H a o) := ⟨fun _ h => h, fun _ h => .inl h, ⟨[], by simp⟩, fun _ h => .inl h, fun c u h nf => by
  rw [upd_ne (fun e => nf (by rw [e]; exact fp_of h1))]; exact h, fun c h => by
  by_cases e : c = a
  · subst e; rw [upd_same]; exact fun z => by cases z
  · rw [upd_ne e]; exact h⟩
theorem Pers.cellPut (g : Good K G S H) {n : Nat} {a : Addr} {o : HO} (h1 : G.m[n]? = some a) : Pers K G H G (L2.upd H a o) := (Ext.cellPut h1).pers g
/-- cells' contents lean on no list -/
theorem RpA.gz {v : List V} {d : List D} (r : RpA K (Gz G.m) H v d) : RpA K G H v d := r.pers Pers.ofGz
end

/-! ### new shared things -/
def eCell (m : Env' → M (List D)) : Env' → M D := fun ρ S => (m ρ S).bind fun r => if pureA r.1 = true then some (.ob r.2.length, r.2 ++ [.lst r.1]) else none
section
variable {X : Cx} {e : Expr} {mf : Env' → M (List D)} {pos : Pos}
theorem je_cell (h : JF X e mf) : JE X e (eCell mf) := pe_mono h fun σ H Q ⟨G, ρ, S, d, S', r, g, e, k⟩ => by
  obtain ⟨⟨ds, S1⟩, e1, e⟩ := bnd e
  obtain ⟨hp, e⟩ := ifs e
  cases e
  refine ⟨G, ρ, S, ds, S1, r, g, e1, fun G1 p xs H1 x1 g1 hp0 nF nf e2 hz r1 => ?_⟩
  have hm : Mut (H1 p) := by rw [e2]; exact True.intro
  have hc : CellOk X.K (G1.cellAt p).m H1 p (.lst ds) := ⟨xs, e2, hz, (r1.pure hp).pers (Pers.cellAt (G := Gz G1.m))⟩
  refine k (G1.cellAt p) _ H1 (x1.cellAt hp0) (g1.cellAt nF nf hm hc) (.ob ?_)
  show (G1.m ++ [p])[S1.length]? = some p
  rw [← g1.len, List.getElem?_append_right (Nat.le_refl _), Nat.sub_self]
  rfl
def eDicNew (tup : Bool) : Env' → M D := fun _ S => some (.ob S.length, S ++ [if tup = true then .dT [] else .dK []])
theorem je_dicNewT : JE X (.Dict [] [] pos) (eDicNew true) := pe_mono pe_dnewT fun σ H Q ⟨G, ρ, S, d, S', r, g, e, k⟩ => by
  cases e
  intro p hp
  have g1 := g.new (o := .dT []) hp
  have hc : CellOk X.K (G.cellAt p).m (upd H p (.dT [])) p (.dT []) := ⟨[], upd_same, rfl, .nil⟩
  refine k (G.cellAt p) _ _ ((Ext.new hp).cellAt hp) (g1.cellAt (g.noF hp) (g.nofp hp) (by rw [upd_same]; exact True.intro) hc) (.ob ?_)
  show (G.m ++ [p])[S.length]? = some p
  rw [← g.len, List.getElem?_append_right (Nat.le_refl _), Nat.sub_self]
  rfl
theorem je_dicNewK : JE X (.Dict [] [] pos) (eDicNew false) := pe_mono pe_dnewK fun σ H Q ⟨G, ρ, S, d, S', r, g, e, k⟩ => by
  cases e
  intro p hp
  have g1 := g.new (o := .dK []) hp
  have hc : CellOk X.K (G.cellAt p).m (upd H p (.dK [])) p (.dK []) := ⟨[], upd_same, rfl, .nil⟩
  refine k (G.cellAt p) _ _ ((Ext.new hp).cellAt hp) (g1.cellAt (g.noF hp) (g.nofp hp) (by rw [upd_same]; exact True.intro) hc) (.ob ?_)
  show (G.m ++ [p])[S.length]? = some p
  rw [← g.len, List.getElem?_append_right (Nat.le_refl _), Nat.sub_self]
  rfl

/-! displays with written keys -/
def DPs (X : Cx) (pos : Pos) (keys : List (Option Expr)) (values : List Expr) (ks : List Key) (m : Env' → M (List D)) : Prop :=
  ∃ trs, PPs X pos keys values trs ∧ keys.length = ks.length ∧ values.length = ks.length ∧ keys.all (·.isSome) = true ∧ ∀ σ H (Q : List (V × V) → Hp → Prop), (∃ G ρ S ds S', RelE X.K G H σ ρ ∧ Good X.K G S H ∧ m ρ S = some (ds, S') ∧
    ∀ G' vs H', Ext G H G' H' → Good X.K G' S' H' → RpA X.K G' H' vs ds → vs.length = ks.length → Q ((ks.zip vs).map fun kv => (kV kv.1, kv.2)) H') → tPairs trs σ H Q
theorem dp_nil : DPs X pos [] [] [] aNil := ⟨[], pps_nil, rfl, rfl, rfl, fun σ H Q ⟨G, ρ, S, ds, S', r, g, e, k⟩ => by
  cases e
  exact k G [] H Ext.refl g .nil rfl⟩
theorem dp_cons {x : Str} {j : Nat} {pk : Pos} {v : Expr} {keys : List (Option Expr)} {values : List Expr} {ks : List Key} {mv : Env' → M D} {ms : Env' → M (List D)} (hv : JE X v mv) (hr : DPs X pos keys values ks ms) :
    DPs X pos (some (.Constant (.str x) j pk) :: keys) (v :: values) (.inr x :: ks) (aCons mv ms) := by
  obtain ⟨trs, pp, h1, h2, h3, h⟩ := hr
  refine ⟨_, pps_cons pe_str hv pp, by rw [List.length_cons, List.length_cons, h1], by rw [List.length_cons, List.length_cons, h2], by rw [List.all_cons, h3]; rfl, fun σ H Q ⟨G, ρ, S, ds, S', r, g, e, k⟩ => ?_⟩
  obtain ⟨⟨d1, S1⟩, e1, e⟩ := bnd e
  obtain ⟨⟨d2, S2⟩, e2, e⟩ := bnd e
  cases e
  refine ⟨G, ρ, S, d1, S1, r, g, e1, fun G1 v1 H1 x1 g1 r1 => h σ H1 _ ⟨G1, ρ, S1, d2, S2, r.ext x1 g, g1, e2, fun G2 vs H2 x2 g2 r2 hl => ?_⟩⟩
  exact k G2 (v1 :: vs) H2 (x1.trans x2) g2 (.cons (r1.ext x2 g1) r2) (by rw [List.length_cons, List.length_cons, hl])
theorem putK_new {κ : Type} [DecidableEq κ] {kvs : List (κ × V)} {k : κ} {v : V} (h : k ∉ kvs.map (·.1)) : putK kvs k v = kvs ++ [(k, v)] := by
  unfold putK
  rw [if_neg]
  intro q
  obtain ⟨p, hp, e⟩ := List.any_eq_true.mp q
  exact h (List.mem_map.mpr ⟨p, hp, of_decide_eq_true e⟩)
theorem mergeK_new : ∀ (more kvs : List (Key × V)), (kvs.map (·.1) ++ more.map (·.1)).Nodup → mergeK kvs more = kvs ++ more
  | [], kvs, _ => by simp [mergeK]
  | p :: more, kvs, h => by
    have e : mergeK kvs (p :: more) = mergeK (putK kvs p.1 p.2) more := rfl
    have hn : p.1 ∉ kvs.map (·.1) := fun z => by
      have := (List.nodup_append.mp h).2.2 p.1 z p.1 (by simp)
      exact this rfl
    rw [e, putK_new hn, mergeK_new more (kvs ++ [(p.1, p.2)]) (by simpa [List.append_assoc] using h)]
    simp
theorem zip_fst {α β : Type} : ∀ {l : List α} {m : List β}, m.length = l.length → (l.zip m).map (·.1) = l
  | [], [], _ => rfl
  | a :: l, b :: m, h => by rw [List.zip_cons_cons, List.map_cons, zip_fst (by simpa using h)]
theorem zip_snd {α β : Type} : ∀ {l : List α} {m : List β}, m.length = l.length → (l.zip m).map (·.2) = m
  | [], [], _ => rfl
  | a :: l, b :: m, h => by rw [List.zip_cons_cons, List.map_cons, zip_snd (by simpa using h)]
def eDic (ks : List Key) (m : Env' → M (List D)) : Env' → M D := fun ρ S => (m ρ S).bind fun r => if pureA r.1 = true then some (.ob r.2.length, r.2 ++ [.dK (ks.zip r.1)]) else none
theorem je_dic {keys : List (Option Expr)} {values : List Expr} {ks : List Key} {ms : Env' → M (List D)} (h : DPs X pos keys values ks ms) (h0 : keys ≠ []) (h15 : ks.length ≤ 15) (hnd : ks.Nodup) : JE X (.Dict keys values pos) (eDic ks ms) := by
  obtain ⟨trs, pp, l1, l2, hall, ht⟩ := h
  refine pe_mono (pe_disp pp hall (l1.trans l2.symm) h0 (by rw [l1]; exact h15)) fun σ H Q ⟨G, ρ, S, d, S', r, g, e, k⟩ => ?_
  obtain ⟨⟨ds, S1⟩, e1, e⟩ := bnd e
  obtain ⟨hp, e⟩ := ifs e
  cases e
  intro p hp0
  refine ht σ _ _ ⟨G, ρ, S, ds, S1, r.ext (Ext.new hp0) g, g.new hp0, e1, fun G1 vs H1 x1 g1 r1 hl => ?_⟩
  have nf0 : ¬ G.fp p := g.nofp hp0
  have nF0 : ¬ G.F p := g.noF hp0
  have hnn : (upd H p (.dK []) : Hp) p = some (.dK []) := upd_same
  have hH1 : H1 p = some (.dK []) := x1.keep p _ hnn nf0
  have nf : ¬ G1.fp p := fun f => (x1.fn p f).elim nf0 fun z => by rw [hnn] at z; cases z
  have nF : ¬ G1.F p := fun f => (x1.Fn p f).elim nF0 fun z => by rw [hnn] at z; cases z
  refine ⟨hH1, ks.zip vs, rfl, ?_, ?_⟩
  · rw [List.length_zip]
    exact Nat.le_trans (Nat.min_le_left _ _) h15
  · have hmerge : mergeK [] (ks.zip vs) = ks.zip vs := by
      rw [mergeK_new _ _ (by rw [zip_fst hl]; simpa using hnd)]
      rfl
    rw [hmerge]
    have hl2 : ds.length = ks.length := by rw [← r1.length]; exact hl
    have mu : Mut (H1 p) := by rw [hH1]; exact True.intro
    have g2 : Good X.K G1 S1 (upd H1 p (.dK (ks.zip vs))) := g1.put nf (.inr mu)
    have p2 : Pers X.K (Gz G1.m) H1 (Gz (G1.cellAt p).m) (upd H1 p (.dK (ks.zip vs))) := (Pers.put (G := Gz G1.m) (.inr mu) id).trans (Pers.cellAt (G := Gz G1.m))
    have hc : CellOk X.K (G1.cellAt p).m (upd H1 p (.dK (ks.zip vs))) p (.dK (ks.zip ds)) := ⟨ks.zip vs, upd_same, by rw [zip_fst hl, zip_fst hl2], by rw [zip_snd hl, zip_snd hl2]; exact (r1.pure hp).pers p2⟩
    have x2 : Ext G H G1 (upd H1 p (.dK (ks.zip vs))) := by
      have x := (Ext.new (G := G) (o := HO.dK []) hp0).trans x1
      exact ⟨x.F, x.Fn, x.m, x.fn, fun a o h nfa => by rw [upd_ne (ne_of_none h hp0)]; exact x.keep a o h nfa, fun a h => by
        by_cases e : a = p
        · subst e; rw [upd_same]; exact fun z => by cases z
        · rw [upd_ne e]; exact x.there a h⟩
    refine k (G1.cellAt p) _ _ (x2.cellAt hp0) (g2.cellAt nF nf (by rw [upd_same]; exact True.intro) hc) (.ob ?_)
    show (G1.m ++ [p])[S1.length]? = some p
    rw [← g1.len, List.getElem?_append_right (Nat.le_refl _), Nat.sub_self]
    rfl
end

/-! ### d[k] = v -/
def putD {κ : Type} [DecidableEq κ] (kvs : List (κ × D)) (k : κ) (v : D) : List (κ × D) :=
  if (kvs.any fun kv => decide (kv.1 = k)) = true then kvs.map (fun kv => if kv.1 = k then (kv.1, v) else kv) else kvs ++ [(k, v)]
def fPut (S : Sto) : D → D → D → Option Sto
  | .ob n, kd, v => match S[n]? with
    | some (.dK kvs) => (keyD kd).bind fun k => if pureD v = true ∧ kvs.length < sizeLine then some (S.set n (.dK (putD kvs k v))) else none
    | some (.dT kvs) => match kd with
      | .tup ks => (keysD ks).bind fun k => if pureD v = true ∧ kvs.length < sizeLine then some (S.set n (.dT (putD kvs k v))) else none
      | _ => none
    | _ => none
  | _, _, _ => none
def sPut (o i v : Env' → M D) : SM := fun ρ S => (v (vis ρ) S).bind fun r => (o (vis ρ) r.2).bind fun q => (i (vis ρ) q.2).bind fun p => (fPut p.2 q.1 p.1 r.1).bind fun S' => some ((.nx, ρ), S')
def sPutF (o i v : Env' → M D) : SM := fun ρ S => (v (fz ρ) S).bind fun r => (o (fz ρ) r.2).bind fun q => (i (fz ρ) q.2).bind fun p => (fPut p.2 q.1 p.1 r.1).bind fun S' => some ((.nx, ρ), S')
section
variable {K : PySem.W.Frag} {G : Gh} {S S' : Sto} {H : Hp}
theorem putD_rp {κ : Type} [DecidableEq κ] {k : κ} {v : V} {d : D} (r : Rp K G H v d) : ∀ {vs : List (κ × V)} {ds : List (κ × D)}, vs.map (·.1) = ds.map (·.1) → RpA K G H (vs.map (·.2)) (ds.map (·.2)) →
    (putK vs k v).map (·.1) = (putD ds k d).map (·.1) ∧ RpA K G H ((putK vs k v).map (·.2)) ((putD ds k d).map (·.2)) := by
  intro vs ds e q
  have any_eq : ∀ {vs : List (κ × V)} {ds : List (κ × D)}, vs.map (·.1) = ds.map (·.1) → (vs.any fun kv => decide (kv.1 = k)) = (ds.any fun kv => decide (kv.1 = k)) := by
    intro vs ds e
    have h1 : (vs.any fun kv => decide (kv.1 = k)) = (vs.map (·.1)).any (fun c => decide (c = k)) := by rw [List.any_map]; rfl
    have h2 : (ds.any fun kv => decide (kv.1 = k)) = (ds.map (·.1)).any (fun c => decide (c = k)) := by rw [List.any_map]; rfl
    rw [h1, h2, e]
  unfold putK putD
  rw [any_eq e]
  split
  · refine ⟨?_, ?_⟩
    · have f1 : ∀ l : List (κ × V), (l.map (fun kv => if kv.1 = k then (kv.1, v) else kv)).map (·.1) = l.map (·.1) := fun l => by
        rw [List.map_map]; refine List.map_congr_left fun x _ => ?_
        show (if x.1 = k then (x.1, v) else x).1 = x.1
        split <;> rfl
      have f2 : ∀ l : List (κ × D), (l.map (fun kv => if kv.1 = k then (kv.1, d) else kv)).map (·.1) = l.map (·.1) := fun l => by
        rw [List.map_map]; refine List.map_congr_left fun x _ => ?_
        show (if x.1 = k then (x.1, d) else x).1 = x.1
        split <;> rfl
      rw [f1, f2, e]
    · have main : ∀ {vs : List (κ × V)} {ds : List (κ × D)}, vs.map (·.1) = ds.map (·.1) → RpA K G H (vs.map (·.2)) (ds.map (·.2)) →
          RpA K G H ((vs.map (fun kv => if kv.1 = k then (kv.1, v) else kv)).map (·.2)) ((ds.map (fun kv => if kv.1 = k then (kv.1, d) else kv)).map (·.2)) := by
        intro vs
        induction vs with
        | nil =>
          intro ds e q
          cases ds with
          | nil => exact .nil
          | cons _ _ => simp at e
        | cons a vs ih =>
          intro ds e q
          cases ds with
          | nil => simp at e
          | cons b ds =>
            rw [List.map_cons, List.map_cons] at e
            obtain ⟨e1, e2⟩ := List.cons.inj e
            have e1 : a.1 = b.1 := e1
            cases q with
            | cons q1 q2 =>
              refine .cons ?_ (ih e2 q2)
              show Rp K G H (if a.1 = k then (a.1, v) else a).2 (if b.1 = k then (b.1, d) else b).2
              rw [e1]
              split
              · exact r
              · exact q1
      exact main e q
  · refine ⟨by rw [List.map_append, List.map_append, e]; rfl, ?_⟩
    rw [List.map_append, List.map_append]
    exact q.append (.cons r .nil)
/-- what fPut says -/
theorem fPut_rp {o i v : V} {od id vd : D} (g : Good K G S H) (ro : Rp K G H o od) (ri : Rp K G H i id) (rv : Rp K G H v vd) (h : fPut S od id vd = some S') :
    ∃ (a : Addr) (n : Nat) (H' : Hp), o = .ref a ∧ G.m[n]? = some a ∧ DPut H a i v H' ∧ Ext G H G H' ∧ Good K G S' H' := by
  cases od with
  | ob n =>
    simp only [fPut] at h
    split at h
    · rename_i kvs hc
      obtain ⟨a, rfl, hm, vs, e2, e3, r2⟩ := cell_at g ro hc
      obtain ⟨kk, h1, h⟩ := bnd h
      obtain ⟨⟨hp, hl⟩, rfl⟩ := ifs h
      have hl2 : vs.length < sizeLine := by
        have := congrArg List.length e3
        rw [List.length_map, List.length_map] at this
        omega
      rw [keyD_rp ri h1]
      have pz := (Pers.cellPut (o := HO.dK (putK vs kk v)) g hm).gz
      obtain ⟨q1, q2⟩ := putD_rp (k := kk) ((rv.pure hp).pers pz) e3 (r2.pers pz)
      exact ⟨a, n, _, rfl, hm, DPut.k e2 hl2, Ext.cellPut hm, g.cellPut hm True.intro ⟨_, upd_same, q1, q2⟩⟩
    · rename_i kvs hc
      obtain ⟨a, rfl, hm, vs, e2, e3, r2⟩ := cell_at g ro hc
      split at h
      · rename_i ks
        obtain ⟨kk, h1, h⟩ := bnd h
        obtain ⟨⟨hp, hl⟩, rfl⟩ := ifs h
        have hl2 : vs.length < sizeLine := by
          have := congrArg List.length e3
          rw [List.length_map, List.length_map] at this
          omega
        obtain ⟨b, ys, rfl, hb, _, r3⟩ := ri.tupH_
        rw [keysD_rp r3 h1] at hb
        have pz := (Pers.cellPut (o := HO.dT (putK vs kk v)) g hm).gz
        obtain ⟨q1, q2⟩ := putD_rp (k := kk) ((rv.pure hp).pers pz) e3 (r2.pers pz)
        exact ⟨a, n, _, rfl, hm, DPut.t e2 hb hl2, Ext.cellPut hm, g.cellPut hm True.intro ⟨_, upd_same, q1, q2⟩⟩
      · cases h
    · cases h
  | _ => cases h
end
section
variable {X : Cx} {o i v : Expr} {mo mi mv : Env' → M D} {pos pos' : Pos}
theorem js_put (hu : X.A.units + 64 < cLine) (ho : JE X o mo) (hi : JE X i mi) (hv : JE X v mv) (hs : swapsWith v (some (.Subscript o i pos')) pos.line X.env = pure false := by rfl) :
    JS X (.Assign [.Subscript o i pos'] v pos) (sPut mo mi mv) := ps_mono (ps_dput (by omega) ho hi hv hs) fun D σ H h => by
  obtain ⟨G0, H0, G, ρ, S, fl, ρ', S', r, g, e, k⟩ := h
  obtain ⟨⟨d1, S1⟩, e1, e⟩ := bnd e
  obtain ⟨⟨d2, S2⟩, e2, e⟩ := bnd e
  obtain ⟨⟨d3, S3⟩, e3, e⟩ := bnd e
  obtain ⟨S4, e4, e⟩ := bnd e
  cases e
  refine ⟨G, vis ρ, S, d1, S1, r.vis, g, e1, fun G1 v H1 x1 g1 r1 => ⟨G1, vis ρ, S1, d2, S2, (r.ext g x1).vis, g1, e2, fun G2 o H2 x2 g2 r2 => ⟨G2, vis ρ, S2, d3, S3, ((r.ext g x1).ext g1 x2).vis, g2, e3, fun G3 i H3 x3 g3 r3 => ?_⟩⟩⟩
  obtain ⟨a, n, H', rfl, hm, hP, x4, g4⟩ := fPut_rp g3 (r2.ext x3 g2) r3 ((r1.ext x2 g1).ext x3 g2) e4
  have xx := ((x1.trans x2).trans x3).trans x4
  exact ⟨a, H', rfl, hP, k G3 H' g4 (xx.pers g) _ (r.ext g xx)⟩
theorem js_putF (hu : X.A.units + 64 < cLine) (ho : JE X o mo) (hi : JE X i mi) (hv : JE X v mv) (hs : swapsWith v (some (.Subscript o i pos')) pos.line X.env = pure false := by rfl) :
    JS X (.Assign [.Subscript o i pos'] v pos) (sPutF mo mi mv) := ps_mono (ps_dput (by omega) ho hi hv hs) fun D σ H h => by
  obtain ⟨G0, H0, G, ρ, S, fl, ρ', S', r, g, e, k⟩ := h
  obtain ⟨⟨d1, S1⟩, e1, e⟩ := bnd e
  obtain ⟨⟨d2, S2⟩, e2, e⟩ := bnd e
  obtain ⟨⟨d3, S3⟩, e3, e⟩ := bnd e
  obtain ⟨S4, e4, e⟩ := bnd e
  cases e
  refine ⟨_, fz ρ, S, d1, S1, r.fz, r.goodP g, e1, fun G1 v H1 x1 g1 r1 => ⟨G1, fz ρ, S1, d2, S2, r.fz.ext x1 (r.goodP g), g1, e2, fun G2 o H2 x2 g2 r2 => ⟨G2, fz ρ, S2, d3, S3, (r.fz.ext x1 (r.goodP g)).ext x2 g1, g2, e3, fun G3 i H3 x3 g3 r3 => ?_⟩⟩⟩
  obtain ⟨a, n, H', rfl, hm, hP, x4, g4⟩ := fPut_rp g3 (r2.ext x3 g2) r3 ((r1.ext x2 g1).ext x3 g2) e4
  obtain ⟨r5, g5, p5⟩ := r.back g (((x1.trans x2).trans x3).trans x4) g4
  exact ⟨a, H', rfl, hP, k _ H' g5 p5 _ r5⟩

theorem ifs' {α : Type} {c : Prop} [Decidable c] {x : Option α} {z : α} (h : (if c then x else none) = some z) : c ∧ x = some z := by
  split at h
  · rename_i hc; exact ⟨hc, h⟩
  · cases h
/-! ### methods of shared lists -/
def fPop (S : Sto) : D → Option (D × Sto)
  | .ob n => match S[n]? with
    | some (.lst xs) => (xs[xs.length - 1]?).map fun d => (d, S.set n (.lst xs.dropLast))
    | _ => none
  | _ => none
def ePop (o : Env' → M D) : Env' → M D := fun ρ S => (o ρ S).bind fun r => fPop r.2 r.1
theorem RpA.dropLast {K : PySem.W.Frag} {G : Gh} {H : Hp} : ∀ {vs : List V} {ds : List D}, RpA K G H vs ds → RpA K G H vs.dropLast ds.dropLast
  | _, _, .nil => .nil
  | _, _, .cons r .nil => .nil
  | _, _, .cons r (.cons q t) => .cons r (RpA.dropLast (.cons q t))
theorem je_popC {apos cpos : Pos} (ho : JE X o mo) (pe : ∀ {t : TE}, PE X o t → PE X (.Call (.Attribute o "pop" apos) [] [] cpos) (tBM0 X.K "list" rPop t) := by intro t h; exact pe_bm0 PySem.F.plainAttrs_list PySem.F.slot_list_pop PySem.F.type_list_pop mt_pop h) :
    JE X (.Call (.Attribute o "pop" apos) [] [] cpos) (ePop mo) := pe_mono (pe ho) fun σ H Q ⟨G, ρ, S, d, S', r, g, e, k⟩ => by
  obtain ⟨⟨d1, S1⟩, e1, e⟩ := bnd e
  refine ⟨G, ρ, S, d1, S1, r, g, e1, fun G1 v H1 x1 g1 r1 => ?_⟩
  cases d1 with
  | ob n =>
    simp only [fPop] at e
    split at e
    · rename_i xs hc
      obtain ⟨z, hz, e⟩ := Option.map_eq_some_iff.mp e
      cases e
      obtain ⟨a, rfl, hm, vs, e2, zz, r2⟩ := cell_at g1 r1 hc
      obtain ⟨y, hy, ry⟩ := r2.get hz
      have pz := Pers.cellPut (o := HO.lst vs.dropLast) g1 hm
      refine ⟨.inl ⟨rfl, vs, SqL.of e2⟩, a, vs, y, rfl, rfl, e2, by rw [r2.length]; exact hy, ?_⟩
      exact k G1 y _ (x1.trans (Ext.cellPut hm)) (g1.cellPut hm True.intro ⟨_, upd_same, by rw [List.length_dropLast]; omega, r2.dropLast.pers pz.gz⟩) (ry.gz.pers pz)
    · cases e
  | _ => cases e
def fAppC (S : Sto) : D → D → Option Sto
  | .ob n, d => match S[n]? with
    | some (.lst xs) => if pureD d = true ∧ xs.length < sizeLine then some (S.set n (.lst (xs ++ [d]))) else none
    | _ => none
  | _, _ => none
def isLC (S : Sto) : D → Bool
  | .ob n => match S[n]? with
    | some (.lst _) => true
    | _ => false
  | _ => false
def eAppC (o a : Env' → M D) : Env' → M D := fun ρ S => (o ρ S).bind fun r => if isLC r.2 r.1 = true then (a ρ r.2).bind fun q => (fAppC q.2 r.1 q.1).bind fun S' => some (.non, S') else none
theorem isLC_ty {K : PySem.W.Frag} {G : Gh} {S : Sto} {H : Hp} {v : V} {d : D} (g : Good K G S H) (r : Rp K G H v d) (h : isLC S d = true) : tyV K "list" v H := by
  cases d with
  | ob n =>
    simp only [isLC] at h
    split at h
    · rename_i xs hc
      obtain ⟨a, rfl, hm, vs, e2, _⟩ := cell_at g r hc
      exact .inl ⟨rfl, vs, SqL.of e2⟩
    · cases h
  | _ => cases h
theorem je_appC {a : Expr} {ma : Env' → M D} {apos cpos : Pos} (ho : JE X o mo) (ha : JE X a ma) (pe : ∀ {t t' : TE}, PE X o t → PE X a t' → PE X (.Call (.Attribute o "append" apos) [a] [] cpos) (tBM X.K "list" rAppend t (tCons t' tNil)) := by intro t t' h h'; exact pe_bm PySem.F.plainAttrs_list PySem.F.slot_list_append PySem.F.type_list_append mt_append h (pa_cons h' pa_nil)) :
    JE X (.Call (.Attribute o "append" apos) [a] [] cpos) (eAppC mo ma) := pe_mono (pe ho ha) fun σ H Q ⟨G, ρ, S, d, S', r, g, e, k⟩ => by
  obtain ⟨⟨d1, S1⟩, e1, e⟩ := bnd e
  obtain ⟨hlc, e⟩ := ifs' e
  obtain ⟨⟨d2, S2⟩, e2, e⟩ := bnd e
  obtain ⟨S3, e3, e⟩ := bnd e
  cases e
  refine ⟨G, ρ, S, d1, S1, r, g, e1, fun G1 v H1 x1 g1 r1 => ⟨isLC_ty g1 r1 hlc, G1, ρ, S1, d2, S2, r.ext x1 g, g1, e2, fun G2 w H2 x2 g2 r2 => ?_⟩⟩
  have r1' := r1.ext x2 g1
  cases d1 with
  | ob n =>
    simp only [fAppC] at e3
    split at e3
    · rename_i xs hc
      obtain ⟨⟨hp, hl⟩, rfl⟩ := ifs e3
      obtain ⟨b, rfl, hm, vs, e4, zz, r4⟩ := cell_at g2 r1' hc
      have pz := (Pers.cellPut (o := HO.lst (vs ++ [w])) g2 hm).gz
      have hl2 : vs.length < sizeLine := by rw [r4.length]; exact hl
      exact ⟨b, vs, w, rfl, rfl, e4, hl2, k G2 .non _ ((x1.trans x2).trans (Ext.cellPut hm)) (g2.cellPut hm True.intro ⟨_, upd_same, by rw [List.length_append, List.length_singleton]; exact hl2, (r4.append (.cons (r2.pure hp) .nil)).pers pz⟩) .non⟩
    · cases e3
  | _ => cases e3
end
end J
end
section
set_option Elab.async false
set_option linter.all false
set_option maxRecDepth 100000
set_option maxHeartbeats 4000000
/-! J11: a tuple stored to a name and an own list; xs[::-1]; powers; sorted of pairs. Own work. -/
namespace J
open PySem PySem.Spec PyProof.Rows L2
section
variable {X : Cx} {a b e : Expr} {ma mb : Env' → M D} {mg : Env' → M (List D)} {pos : Pos}
/-- x, y = a, b where x is a cell and y an own list: the tuple is made -/
theorem js_asgVO (i j : Nat) {tg : Expr} {k2 pt2} (hij : i ≠ j) (ha : JE X a ma) (hb : JF X b mg) (hg : PG X tg (gT X.K (.tp [.nm i, .nm j])))
    (hs : swapsWithSole [tg] (.Tuple [a, b] k2 pt2) pos.line X.env = pure false := by rfl) (hw : swappedStores [tg] (.Tuple [a, b] k2 pt2) X.env = pure none := by rfl)
    (h0 : (assignEach [tg] X.env).map (·.2) = [assign tg X.env] := by rfl)
    (h1 : starEach [a, b] X.env = (false, eval a X.env) :: starEach [b] X.env := by rfl) (h2 : starEach [b] X.env = (false, eval b X.env) :: starEach [] X.env := by rfl) :
    JS X (.Assign [tg] (.Tuple [a, b] k2 pt2) pos) (sParVO i j ma mg) := ps_mono (ps_asg (pe_tup (pa_cons ha (pa_cons hb pa_nil h2) h1)) hg hs hw h0) fun D σ H h => by
  obtain ⟨G0, H0, G, ρ, S, fl, ρ', S', r, g, e, k⟩ := h
  obtain ⟨⟨d1, S1⟩, e1, e⟩ := bnd e
  obtain ⟨⟨d2, S2⟩, e2, e⟩ := bnd e
  obtain ⟨rfl, rfl, rfl⟩ := put2_inv e
  refine ⟨G, vis ρ, S, d1, S1, r.vis, g, e1, fun G1 v H1 x1 g1 r1 => ⟨G1, vis ρ, S1, d2, _, (r.ext g x1).vis, g1, e2, fun G2 p xs H2 x2 g2 hp nF nf e3 hz r2 => ⟨by show 2 ≤ sizeLine; decide, fun T hT => ⟨T, [v, .ref p], rfl, SqT.of upd_same, rfl, v, [.ref p], rfl, .ref p, [], rfl, rfl, ?_⟩⟩⟩⟩
  have rr := ((r.ext g x1).set r1 (i := i)).ext g1 x2
  have r3 := rr.setOwn (i := j) (fresh0 (r.ext g x1) hp) (own_ne ((r.ext g x1).set r1 (i := i)) hp) nF nf e3 hz r2
  have x3 : Ext G2 H2 G2 (upd H2 T (.tup [v, .ref p])) := Ext.new hT
  exact k G2 _ (g2.new hT) (((x1.trans x2).trans x3).pers g) _ (r3.ext g2 x3)

/-! ### xs[::-1] -/
def fRev : D → Option (List D)
  | .lst xs => some xs.reverse
  | .cl xs => some xs.reverse
  | _ => none
def eRev (m : Env' → M D) : Env' → M (List D) := fun ρ S => (m ρ S).bind fun r => (fRev r.1).bind fun z => some (z, r.2)
theorem jf_rev {k : Nat} {p1 p2 p3 : Pos} (ha : JE X a ma) : JF X (.Subscript a (.Slice none none (some (.UnaryOp .USub (.Constant (.int 1) k p1) p2)) p3) pos) (eRev ma) := pe_mono (pe_revL ha) fun σ H Q ⟨G, ρ, S, d, S', r, g, e, k⟩ => by
  obtain ⟨⟨d1, S1⟩, e1, e⟩ := bnd e
  obtain ⟨z, e2, e⟩ := bnd e
  cases e
  refine ⟨G, ρ, S, d1, S1, r, g, e1, fun G1 v H1 x1 g1 r1 => ?_⟩
  have fin : ∀ {c : Addr} {xs : List V} {ys : List D}, v = .ref c → SqL X.K H1 c xs → xs.length ≤ sizeLine → RpA X.K G1 H1 xs ys → d = ys.reverse → ∃ a xs, v = .ref a ∧ SqL X.K H1 a xs ∧ ∀ p, H1 p = none → Q (.ref p) (upd H1 p (.lst xs.reverse)) := fun {c xs ys} ev hx hz rx ed => by
    refine ⟨c, xs, ev, hx, fun p hp => ?_⟩
    have x2 : Ext G1 H1 G1 (upd H1 p (.lst xs.reverse)) := Ext.new hp
    refine k G1 p xs.reverse _ (x1.trans x2) (g1.new hp) (fresh_of x1 hp) (g1.noF hp) (g1.nofp hp) upd_same (by rw [List.length_reverse]; exact hz) ?_
    rw [ed]
    exact rx.reverse.ext x2 g1
  cases d1 with
  | lst ys =>
    cases e2
    obtain ⟨c, xs, rfl, _, hx, hz, rx⟩ := r1.lst_
    exact fin rfl (SqL.of hx) hz rx rfl
  | cl ys =>
    cases e2
    obtain ⟨c, xs, rfl, hx, hz, rx⟩ := r1.cl_
    exact fin rfl hx.sq hz rx rfl
  | _ => cases e2

/-! ### powers, += -/
def dPow : D → D → Option D
  | .int i, .int j => if CPow i j then some (.int (i ^ j.toNat)) else none
  | _, _ => none
theorem ref_pow {K : PySem.W.Frag} : Ref2 K (rI CPow fun i j => .int (i ^ j.toNat)) dPow := by
  intro G S H x y d e z Q g rx ry h k
  cases d with
  | int i => cases e with
    | int j =>
      obtain ⟨h1, rfl⟩ := ifs h
      exact ⟨i, j, rx.int_, ry.int_, h1, k.here g (.int _)⟩
    | _ => cases h
  | _ => cases h
def dAddI : D → D → Option D
  | .int i, .int j => some (.int (i + j))
  | _, _ => none
theorem ref_iadd {K : PySem.W.Frag} : Ref2 K (rI0 fun i j => .int (i + j)) dAddI := by
  intro G S H x y d e z Q g rx ry h k
  cases d with
  | int i => cases e with
    | int j =>
      cases h
      exact ⟨i, j, rx.int_, ry.int_, k.here g (.int _)⟩
    | _ => cases h
  | _ => cases h
end

/-! ### sorted of pairs of ints -/
def pairD : D → Option (Int × Int)
  | .tup [.int a, .int b] => some (a, b)
  | _ => none
def pairsD : List D → Option (List (Int × Int))
  | [] => some []
  | d :: r => (pairD d).bind fun p => (pairsD r).map (p :: ·)
def dPair (p : Int × Int) : D := .tup [.int p.1, .int p.2]
def insP (p : Int × Int) : List (Int × Int) → List (Int × Int)
  | [] => [p]
  | q :: r => if SrtO.lexB q p = true then q :: insP p r else p :: q :: r
def srtP : List (Int × Int) → List (Int × Int)
  | [] => []
  | p :: r => insP p (srtP r)
theorem pairD_inv {d : D} {p : Int × Int} (h : pairD d = some p) : d = dPair p := by
  unfold pairD at h
  split at h
  · cases h; rfl
  · cases h
theorem pairsD_inv : ∀ {ds : List D} {ps : List (Int × Int)}, pairsD ds = some ps → ds = ps.map dPair
  | [], ps, h => by cases h; rfl
  | d :: r, ps, h => by
    obtain ⟨p, h1, h⟩ := bnd (show ((pairD d).bind fun p => (pairsD r).map (p :: ·)) = some ps from h)
    obtain ⟨l, h2, rfl⟩ := Option.map_eq_some_iff.mp h
    rw [pairD_inv h1, pairsD_inv h2]; rfl
theorem insP_perm (p : Int × Int) : ∀ l, (insP p l).Perm (p :: l)
  | [] => List.Perm.refl _
  | q :: r => by
    unfold insP
    split
    · exact ((insP_perm p r).cons q).trans (List.Perm.swap p q r)
    · exact List.Perm.refl _
theorem srtP_perm : ∀ l, (srtP l).Perm l
  | [] => List.Perm.refl _
  | p :: r => (insP_perm p _).trans ((srtP_perm r).cons p)
theorem lexB_tot {p q : Int × Int} (h1 : SrtO.lexB p q = false) (h2 : SrtO.lexB q p = false) : p = q := by
  have a := SrtO.lexB_no.mp h1
  have b := SrtO.lexB_no.mp h2
  obtain ⟨p1, p2⟩ := p
  obtain ⟨q1, q2⟩ := q
  simp only at a b
  have : p1 = q1 := by omega
  have : p2 = q2 := by omega
  subst_vars; rfl
theorem insP_srt (p : Int × Int) : ∀ l, l.Pairwise (fun x y => SrtO.lexB y x = false) → (insP p l).Pairwise (fun x y => SrtO.lexB y x = false)
  | [], _ => List.pairwise_singleton _ _
  | q :: r, h => by
    obtain ⟨h1, h2⟩ := List.pairwise_cons.mp h
    unfold insP
    split
    · rename_i hq
      refine List.pairwise_cons.mpr ⟨fun y hy => ?_, insP_srt p r h2⟩
      rcases List.mem_cons.mp ((insP_perm p r).mem_iff.mp hy) with e | hy
      · subst e
        have a := SrtO.lexB_iff.mp hq
        refine SrtO.lexB_no.mpr ?_
        omega
      · exact h1 y hy
    · rename_i hq
      have hq : SrtO.lexB q p = false := by simpa using hq
      refine List.pairwise_cons.mpr ⟨fun y hy => ?_, h⟩
      rcases List.mem_cons.mp hy with e | hy
      · rw [e]; exact hq
      · have a := SrtO.lexB_no.mp (h1 y hy)
        have b := SrtO.lexB_no.mp hq
        refine SrtO.lexB_no.mpr ?_
        omega
theorem srtP_srt : ∀ l, (srtP l).Pairwise (fun x y => SrtO.lexB y x = false)
  | [] => List.Pairwise.nil
  | p :: r => insP_srt p _ (srtP_srt r)
theorem srt_uniq : ∀ {l m : List (Int × Int)}, l.Pairwise (fun x y => SrtO.lexB y x = false) → m.Pairwise (fun x y => SrtO.lexB y x = false) → l.Perm m → l = m
  | [], m, _, _, h => (List.Perm.eq_nil h.symm).symm
  | x :: l, [], _, _, h => absurd h.length_eq (by simp)
  | x :: l, y :: m, hl, hm, h => by
    have a := List.pairwise_cons.mp hl
    have b := List.pairwise_cons.mp hm
    have e : x = y := by
      rcases List.mem_cons.mp (h.mem_iff.mp (List.mem_cons_self (a := x) (l := l))) with e | hx
      · exact e
      · rcases List.mem_cons.mp (h.mem_iff.mpr (List.mem_cons_self (a := y) (l := m))) with e | hy
        · exact e.symm
        · exact lexB_tot (b.1 x hx) (a.1 y hy)
    subst e
    rw [srt_uniq a.2 b.2 h.cons_inv]
/-- keys of values by what they are -/
theorem kP_ex {K : PySem.W.Frag} {G : Gh} {H : Hp} : ∀ {xs : List V} {ps : List (Int × Int)}, RpA K G H xs (ps.map dPair) → ∃ k : V → Int × Int, (∀ x ∈ xs, ∃ t, x = V.ref t ∧ H t = some (.tup [.int (k x).1, .int (k x).2])) ∧ xs.map k = ps := by
  intro xs ps r
  let k : V → Int × Int := fun v => match v with
    | .ref t => match H t with
      | some (.tup [.int a, .int b]) => (a, b)
      | _ => (0, 0)
    | _ => (0, 0)
  have one : ∀ {v : V} {p : Int × Int}, Rp K G H v (dPair p) → (∃ t, v = V.ref t ∧ H t = some (.tup [.int p.1, .int p.2])) ∧ k v = p := fun {v p} r => by
    obtain ⟨t, ys, rfl, ht, _, r2⟩ := r.tupH_
    obtain ⟨v1, v2, rfl, q1, q2⟩ := rpa2 r2
    rw [q1.int_, q2.int_] at ht
    refine ⟨⟨t, rfl, ht⟩, ?_⟩
    show (match H t with
      | some (.tup [.int a, .int b]) => (a, b)
      | _ => (0, 0)) = p
    rw [ht]
  refine ⟨k, ?_⟩
  induction ps generalizing xs with
  | nil => cases r; exact ⟨fun x h => absurd h List.not_mem_nil, rfl⟩
  | cons p ps ih =>
    cases r with
    | cons r1 r2 =>
      obtain ⟨⟨t, e1, e2⟩, e3⟩ := one r1
      obtain ⟨h1, h2⟩ := ih r2
      refine ⟨fun x hx => ?_, by rw [List.map_cons, e3, h2]⟩
      rcases List.mem_cons.mp hx with e | hx
      · subst e
        exact ⟨t, e1, by rw [e3]; exact e2⟩
      · exact h1 x hx
theorem RpA.ofPairs {K : PySem.W.Frag} {G : Gh} {H : Hp} {k : V → Int × Int} : ∀ {ys : List V}, (∀ y ∈ ys, Rp K G H y (dPair (k y))) → RpA K G H ys ((ys.map k).map dPair)
  | [], _ => .nil
  | y :: ys, h => .cons (h y List.mem_cons_self) (RpA.ofPairs fun z hz => h z (List.mem_cons_of_mem _ hz))
def fSorted : List D → Option D
  | [.lst xs] => (pairsD xs).map fun ps => .lst ((srtP ps).map dPair)
  | _ => none
theorem ref_sorted {K : PySem.W.Frag} : RefN K (rSortedPO K) fSorted := by
  intro G S H xs ds z Q g r h k
  match ds, h with
  | [.lst ys], h =>
    obtain ⟨ps, h1, rfl⟩ := Option.map_eq_some_iff.mp (show (pairsD ys).map (fun ps => D.lst ((srtP ps).map dPair)) = some z from h)
    obtain ⟨v, rfl, q1⟩ := rpa1 r
    obtain ⟨a, xs, rfl, _, hx, zx, rx'⟩ := q1.lst_
    rw [pairsD_inv h1] at rx'
    obtain ⟨kk, h2, h3⟩ := kP_ex rx'
    refine ⟨a, xs, kk, rfl, SqL.of hx, h2, fun ys p hs hb hp => ?_⟩
    have perm : (ys.map kk).Perm ps := by rw [← h3]; exact hb.perm.map kk
    have e : ys.map kk = srtP ps := srt_uniq (List.pairwise_map.mpr hs) (srtP_srt ps) (perm.trans (srtP_perm ps).symm)
    have hz : ys.length ≤ sizeLine := by rw [hb.perm.length_eq]; exact zx
    refine k.newL g hz ?_ p hp
    rw [← e]
    refine RpA.ofPairs fun y hy => ?_
    obtain ⟨t, rfl, ht⟩ := h2 y (hb.perm.mem_iff.mp hy)
    exact .tup ht (by show 2 ≤ sizeLine; decide) (.cons (.int _) (.cons (.int _) .nil))
theorem call_sortedJ {X : Cx} : CallR X (.builtin "sorted") (rSortedPO X.K) := cr_sortedPO
/-! ### the built-in names -/
theorem bt_len : bootBuiltins "len" = some (.builtin "len") := by kernel_rfl
theorem bt_all : bootBuiltins "all" = some (.builtin "all") := by kernel_rfl
theorem bt_any : bootBuiltins "any" = some (.builtin "any") := by kernel_rfl
theorem bt_max : bootBuiltins "max" = some (.builtin "max") := by kernel_rfl
theorem bt_min : bootBuiltins "min" = some (.builtin "min") := by kernel_rfl
theorem bt_sum : bootBuiltins "sum" = some (.builtin "sum") := by kernel_rfl
theorem bt_repr : bootBuiltins "repr" = some (.builtin "repr") := by kernel_rfl
theorem bt_sorted : bootBuiltins "sorted" = some (.builtin "sorted") := by kernel_rfl
theorem bt_isinstance : bootBuiltins "isinstance" = some (.builtin "isinstance") := by kernel_rfl
theorem bt_str : bootBuiltins "str" = some (.type "str") := by kernel_rfl
theorem bt_int : bootBuiltins "int" = some (.type "int") := by kernel_rfl
theorem bt_bool : bootBuiltins "bool" = some (.type "bool") := by kernel_rfl
theorem bt_tuple : bootBuiltins "tuple" = some (.type "tuple") := by kernel_rfl
theorem bt_list : bootBuiltins "list" = some (.type "list") := by kernel_rfl
theorem bt_dict : bootBuiltins "dict" = some (.type "dict") := by kernel_rfl
end J
end
section
set_option Elab.async false
set_option linter.all false
set_option maxRecDepth 100000
set_option maxHeartbeats 4000000
/-! J12: defs that are promised where no repr is under way (the law itself). Own work. -/
namespace J
open PySem PySem.Spec PyProof.Rows L2

/-- the promise of a def where nothing is being shown -/
structure FnOkG (P : Program) (w : World) (K : PySem.W.Frag) (mg : Str → Option Value) (base : Heap) (CX : CXT) (k : Nat) (f : Addr) (fd : FuncData) (ps : List Str) (sp : Sp) : Prop where
  len : ∀ vs H Q E, sp vs H Q E → vs.length = ps.length
  run : ∀ (A : Around) (outer : List Env) (s : Shared) (H : Hp) (args : Args) (us : List Value) (vs : List V) (Q : VK) (E : XK), A.guards = some [] → Room k A → Env0 P w K mg base A outer s H → BindsTo s fd args (ps.zip us) → Vals vs us → sp vs H Q E →
    codeAny (model P w) A (.call (.ref f) args) (CR CX outer P w H s Q E) s
theorem fn_ofG {CX : CXT} {P : Program} {w : World} {K : PySem.W.Frag} {mg : Str → Option Value} {base : Heap} {k : Nat} {f : Addr} {name qual : Str} {params : Arguments} {body : List Stmt} {scope : Scope} {dV kV doc pm cdv ct oc : Value} {an od : Option Addr}
    {osl : Array (Option Value)} {N ps : List Str} {sp : Sp} (lk : K.lookup f = some ⟨oc, od, .func (PySem.W.fnOf name qual params body scope dV kV doc pm an cdv ct), osl⟩) (hcd : PySem.W.codeIn K cdv qual = true) (S : FnScope N ps scope)
    (len : ∀ vs H Q E, sp vs H Q E → vs.length = ps.length)
    (hbody : ∀ (A : Around) (outer : List Env) (s : Shared) (H : Hp) (vs : List V) (Q : VK) (E : XK), A.guards = some [] → Room k (A.deeper (envOfC qual scope s.heap.objs.size f cdv)) → sp vs H Q E →
      ∃ t, PSs (cxOf CX P w K mg base N qual scope f cdv A outer s H E) body t ∧ t { nx := fun _ H' => Q .non H', rt := Q } (L2.start N vs) H) :
    FnOkG P w K mg base CX (k + 1) f (PySem.W.fnOf name qual params body scope dV kV doc pm an cdv ct) ps sp := by
  refine ⟨len, fun A outer s H args us vs Q E hgd hr e0 hb r hsp => ?_⟩
  have hl := len _ _ _ _ hsp
  have KX : K.In s.heap := e0.mod.kin.keeps fun b o e => (e0.bs b o e).1
  have lim : s.heap.NoLimit := e0.mod.nolimit.keeps fun b o e => (e0.bs b o e).1
  have hkind : ∀ y ∈ ps.zip us, scope.names.lookup y.1 = some .local ∨ (scope.names.lookup y.1 = some .cell ∧ ((cellsFrom (s.heap.objs.size + 1) scope.names []).lookup y.1).isSome = true) := fun ⟨n, v⟩ hy => by
    rcases S.par n (List.of_mem_zip hy).1 with q | q
    · exact .inl q
    · exact .inr ⟨q, PySem.W.cellsFrom_some _ _ _ (.inl q)⟩
  refine codeAny_call_function hr.depth (KX _ _ lk) rfl S.co S.gen rfl (PySem.W.codeRec_of KX hcd) (hb _ _ _ _ ?_)
  refine wpAny_newFunctionEnv_cells S.kind hkind fun env he s1 x => ?_
  subst he
  refine ⟨lim.keeps x.toInCall.keep, codeAny_func ?_⟩
  obtain ⟨t, ht, hq⟩ := hbody A outer s H vs Q E hgd (hr.deeper _) hsp
  have I : Inv (cxOf CX P w K mg base N qual scope f cdv A outer s H E) [] (L2.start N vs) H s1 := inv_start S hr.hd e0 hl r x
  refine wpAny_mono (ht.run [] s1 (L2.start N vs) H _ I hq) (fun fl s' hs => ?_) fun e s' hs => hs
  have fin : ∀ {σ' : L2.St} {H' : Hp} {v : V} {u : Value}, Inv (cxOf CX P w K mg base N qual scope f cdv A outer s H E) [] σ' H' s' → RelV v u → Q v H' → CE outer P w H s Q u s' :=
    fun {σ' H' v u} J rv q => ⟨v, H', J.os, J.bare, J.base, J.hok, rv, q⟩
  cases fl with
  | ret u =>
    obtain ⟨v, σ', H', J, rv, q⟩ := hs
    exact fin J rv q
  | next =>
    obtain ⟨σ', H', J, q⟩ := hs
    exact fin (v := V.non) (u := Value.none) J rfl q
  | brk =>
    obtain ⟨_, _, _, q⟩ := hs
    exact False.elim q
  | cont =>
    obtain ⟨_, _, _, q⟩ := hs
    exact False.elim q
section
variable {P : Program} {w : World} {K : PySem.W.Frag} {mg : Str → Option Value} {base : Heap} {x qual : Str} {params : Arguments} {body : List Stmt} {scope : Scope} {dvs : List V} {kws : List (Str × V)} {f : Addr} {fd : FuncData}
theorem okG {CX : CXT} {N ps : List Str} {k : Nat} {sp : Sp} (F : FunD K x qual params body scope dvs kws f fd) (S : FnScope N ps scope) (len : ∀ vs H Q E, sp vs H Q E → vs.length = ps.length)
    (hbody : ∀ (cdv : Value) (A : Around) (outer : List Env) (s : Shared) (H : Hp) (vs : List V) (Q : VK) (E : XK), A.guards = some [] → Room k (A.deeper (envOfC qual scope s.heap.objs.size f cdv)) → sp vs H Q E →
      ∃ t, PSs (cxOf CX P w K mg base N qual scope f cdv A outer s H E) body t ∧ t { nx := fun _ H' => Q .non H', rt := Q } (L2.start N vs) H) : FnOkG P w K mg base CX (k + 1) f fd ps sp := by
  obtain ⟨oc, od, dV, kV, doc, pm, an, cdv, ct, osl, rfl, lk, hcd, _, _⟩ := F.ex
  exact fn_ofG lk hcd S len fun A outer s H vs Q E hgd hr hsp => hbody cdv A outer s H vs Q E hgd hr hsp
/-- a def does what its body's mirror does -/
theorem ok_defG {N ps : List Str} {k : Nat} {m : SM} (F : FunD K x qual params body scope dvs kws f fd) (S : FnScope N ps scope)
    (hbody : ∀ (cdv : Value) (A : Around) (outer : List Env) (s : Shared) (H : Hp) (E : XK), (A.deeper (envOfC qual scope s.heap.objs.size f cdv)).guards = some [] → Room k (A.deeper (envOfC qual scope s.heap.objs.size f cdv)) → JSs (cxOf CX0 P w K mg base N qual scope f cdv A outer s H E).nox body m) :
    FnOkG P w K mg base CX0 (k + 1) f fd ps (spF K (runDef N.length ps.length m)) := by
  refine okG F S (fun vs H Q E h => ?_) (fun cdv A outer s H vs Q E hgd hr h => ⟨tS K m, PSs.nox (hbody cdv A outer s H E (by first | exact hgd | simpa [Around.deeper] using hgd) hr), ?_⟩)
  · obtain ⟨G, S, ds, d, S', g, r, e, _⟩ := h
    rw [r.length]
    exact runDef_len e
  · obtain ⟨G, S, ds, d, S', g, r, e, k⟩ := h
    have hl := runDef_len e
    unfold runDef at e
    rw [if_pos hl] at e
    obtain ⟨⟨⟨f1, ρ1⟩, S1⟩, e1, e⟩ := bnd e
    refine ⟨G, H, G, _, S, f1, ρ1, S1, rel_start (S := S) r r.length.symm, g, by rw [hl]; exact e1, fun G1 H1 g1 p1 => ?_⟩
    cases f1 with
    | ret d' => cases e; exact fun v x1 r1 => k G1 v H1 x1 g1 r1
    | nx => cases e; exact fun σ1 r1 => k G1 .non H1 r1.ex g1 .non
    | brk => cases e
    | cnt => cases e
end
/-- the head, for a law that is promised where nothing is being shown -/
theorem law_callG {P : Program} {w : World} {K : PySem.W.Frag} {mg mb : Str → Option Value} {CX : CXT} {k : Nat} {fa a : Addr} {fd : FuncData} {x : Str} {sp : Sp} {s₁ : Shared} {vs : List Value} {ns : List Int}
    (KX : K.In s₁.heap) (hns : s₁.heap.Ns mainGlobals mg) (hb : s₁.heap.Ns builtinsNs mb) (hbb : ∀ x : Str, x ≠ "__name__" → mb x = bootBuiltins x) (hlim : s₁.heap.NoLimit) (hg : s₁.gens = #[])
    (ha : s₁.heap.get? a = some { cls := .type "list", data := .seq vs.toArray }) (hi : IntsAre vs ns) (hl : ns.length ≤ sizeLine) (hr : Room k callerA)
    (F : ∀ base : Heap, K.In base → base.Ns mainGlobals mg → FnOkG P w K mg base CX k fa fd [x] sp) (hbind : ∀ (s : Shared) (u : Value), BindsTo s fd ⟨[u], []⟩ [(x, u)])
    (hsp : ∀ H : Hp, Only H → SqC K H a (ns.map V.int) → sp [.ref a] H (fun v _ => v = .bl true) fun _ _ _ => False)
    (hCX : ∀ H e s', CX [] H s₁ (fun _ _ _ => False) e s' → False) :
    codeAny (model P w) callerA (.call (.ref fa) ⟨[.ref a], []⟩) (fun r s' => r = .ok (.ret (.bool true)) ∧ OldK s₁.heap s'.heap ∧ s'.os = s₁.os ∧ AllBare s'.gens) s₁ := by
  have rv := vals_ints hi
  have lenV := hi.length
  have core : ∀ H : Hp, Only H → SqC K H a (ns.map V.int) → HOk P w H s₁.heap → (∀ b, H b ≠ none → b = a) → (H a ≠ none → K.lookup a = none) →
      codeAny (model P w) callerA (.call (.ref fa) ⟨[.ref a], []⟩) (fun r s' => r = .ok (.ret (.bool true)) ∧ OldK s₁.heap s'.heap ∧ s'.os = s₁.os ∧ AllBare s'.gens) s₁ := by
    intro H hO hS hok hA hK
    have base_of : ∀ {b : Addr} {o : Obj}, s₁.heap.get? b = some o → H b = none → (hidT s₁.heap H).get? b = some o := fun e n => hidT_get e n
    have noA : ∀ {b : Addr} {o : Obj} {es : Array DictEntry} {ep : Nat}, s₁.heap.get? b = some o → o.data = .dict es ep → H b = none := fun {b o es ep} e d => by
      cases q : H b with
      | none => rfl
      | some u =>
        have e' : b = a := hA b (by rw [q]; simp)
        subst e'
        rw [ha] at e; cases e
        have d' : Data.seq vs.toArray _ = Data.dict es ep := d
        cases d'
    have nsK : ∀ {b : Addr} {m : Str → Option Value}, s₁.heap.Ns b m → (hidT s₁.heap H).Ns b m := fun {b m} ⟨o, es, ep, e, d, r⟩ => ⟨o, es, ep, base_of e (noA e d), d, r⟩
    have hKb : K.In (hidT s₁.heap H) := fun b o e => base_of (KX b o e) (by
      cases q : H b with
      | none => rfl
      | some u =>
        have e' : b = a := hA b (by rw [q]; simp)
        subst e'
        rw [hK (by rw [q]; simp)] at e; cases e)
    have hM : Mod K mg (hidT s₁.heap H) := ⟨hKb, nsK hns, ⟨mb, nsK hb, hbb⟩, let ⟨mc, h1, h2⟩ := hlim; ⟨mc, nsK h1, h2⟩⟩
    have e0 : Env0 P w K mg (hidT s₁.heap H) callerA [] s₁ H := ⟨rfl, hM, fun b o e => of_hidT e, Nat.le_of_eq (hidT_size _ _), trivial, fun b hb => absurd (show b ∈ ([] : List Addr) from hb) (by simp), hok, .of_eq hg⟩
    refine codeAny_mono ((F _ hKb (nsK hns)).run callerA [] s₁ H ⟨[.ref a], []⟩ [.ref a] [.ref a] _ _ rfl hr e0 (hbind s₁ (.ref a)) (.cons rfl .nil) (hsp H hO hS)) fun r s' h => ?_
    cases r with
    | error e => exact (hCX H e s' h).elim
    | ok fl =>
      cases fl with
      | next => exact False.elim h
      | brk => exact False.elim h
      | cont => exact False.elim h
      | ret u =>
        obtain ⟨v, H', os, bare, un, hok', r', q⟩ := h
        have q' : v = .bl true := q
        subst q'
        obtain rfl : u = Value.bool true := r'
        refine ⟨rfl, OldK.of_keep fun b o e => ?_, os, bare⟩
        cases q : H b with
        | none => exact un.keep b o e q (by intro z; exact absurd (show b ∈ ([] : List Addr) from z) (by simp)) (by simp)
        | some u =>
          rcases hO b with z | ⟨ob, xs, z⟩
          · rw [q] at z; cases z
          · have z2 := un.frzs b ob _ z
            obtain ⟨e1, _⟩ := hok b _ z
            obtain ⟨e2, _⟩ := hok' b _ z2
            rw [e] at e1; cases e1
            exact e2
  cases hk : K.lookup a with
  | some o =>
    have e := KX a o hk
    rw [ha] at e
    cases e
    refine core (fun _ => none) (fun _ => .inl rfl) (.inr ⟨_, vs.toArray, _, hk, rfl, rfl, rfl, by rw [List.size_toArray, lenV]; exact hl, by simpa using rv⟩) (fun b u z => by have z' : (none : Option HO) = some u := z; cases z') (fun b z => absurd rfl z) fun z => absurd rfl z
  | none =>
    refine core (fun b => if b = a then some (.frz { cls := .type "list", data := .seq vs.toArray } (.lst (ns.map V.int))) else none) (fun b => ?_) (.inl ⟨{ cls := .type "list", data := .seq vs.toArray }, if_pos rfl⟩) (fun b u z => ?_) (fun b z => ?_) fun _ => hk
    · by_cases hb : b = a
      · exact .inr ⟨_, _, if_pos hb⟩
      · exact .inl (if_neg hb)
    · by_cases hb : b = a
      · have z' := (if_pos hb).symm.trans z
        cases z'
        subst hb
        exact ⟨ha, by rw [List.length_map]; exact hl, vs, _, rv, ha⟩
      · have z' := (if_neg hb).symm.trans z
        cases z'
    · by_cases hb : b = a
      · exact hb
      · exact absurd (if_neg hb) z
theorem walk_ofG {l : PySem.W.OpenLaw} {n k : Nat} {q : Program} {loose : List Str} {XP : (Str → Option Value) → Heap → Prop} {YP : World → Heap → Prop} {d : DefRec} {CX : CXT} {x : Str}
    (hn : l.most = some n) (hn2 : n ≤ sizeLine) (hdf : d.params.defaults = []) (hr : Room k callerA)
    (F : ∀ (w : World) (mg : Str → Option Value) (fa : Addr) (h : Heap), YP w h → h.Ns mainGlobals mg → mg d.name = some (.ref fa) →
      ∃ (K : PySem.W.Frag) (fd : FuncData) (sp : Sp), K.In h ∧ (∀ (s : Shared) (u : Value), BindsTo s fd ⟨[u], []⟩ [(x, u)]) ∧
        (∀ (H : Hp) (a : Addr) (ns : List Int), ns.length ≤ n → Only H → SqC K H a (ns.map V.int) → sp [.ref a] H (fun v _ => v = .bl true) fun _ _ _ => False) ∧
        ∀ base : Heap, K.In base → base.Ns mainGlobals mg → FnOkG l.prog w K mg base CX k fa fd [x] sp)
    (hCX : ∀ (H : Hp) (s : Shared) (e : Value) (s' : Shared), CX [] H s (fun _ _ _ => False) e s' → False) :
    PySem.W.WalkO q loose XP YP l.row.toRowW d [] (fun f vs => PySem.call f vs) := by
  refine Att.attach_call hn hdf fun w s₀ s₁ mg mb fa o pm cd doc a vs ns G Y ho hd hcd hmg hobj hints hlen hg => ?_
  obtain ⟨K, fd, sp, KX, hb, hsp, hF⟩ := F w mg fa _ Y G.T.g hmg
  exact law_callG KX G.T.g G.T.b G.T.builtins G.T.nolimit hg hobj hints (Nat.le_trans hlen hn2) hr hF hb (fun H hO hS => hsp H a ns hlen hO hS) fun H e s' => hCX H s₁ e s'
/-- from a mirror that says True -/
theorem sp_true {K : PySem.W.Frag} {H : Hp} {a : Addr} {ns : List Int} {m : List D → M D} {S' : Sto} (hO : Only H) (hS : SqC K H a (ns.map V.int)) (hz : ns.length ≤ sizeLine) (e : m [.cl (ns.map D.int)] [] = some (.bl true, S')) :
    spF K m [.ref a] H (fun v _ => v = .bl true) fun _ _ _ => False := by
  refine ⟨⟨fun _ => False, []⟩, [], [.cl (ns.map D.int)], .bl true, S', { F0 := fun a f => f.elim, len := rfl, cell := fun n p c h => by simp at h, mt := fun a f => absurd f List.not_mem_nil, nd := List.nodup_nil }, .cons (.cl hS (by rw [List.length_map]; exact hz) (RpA.ofInts ns)) .nil, e, fun G' v H' x g r => r.bl_⟩
end J
end
section
set_option Elab.async false
set_option linter.all false
set_option maxRecDepth 100000
set_option maxHeartbeats 4000000
/-! J13: sorted(d), d a dict whose keys are tuples of ints of any lengths. Own work. -/
namespace J
open PySem PySem.Spec PyProof.Rows L2 PySem.W

/-- v is a tuple of these ints -/
def IsTi (h : Heap) (v : Value) (ns : List Int) : Prop := ∃ (a : Addr) (its : Array Value), v = .ref a ∧ IsTup h a its ∧ IntsAre its.toList ns
theorem IsTi.keeps {h h' : Heap} {v : Value} {ns : List Int} (x : IsTi h v ns) (k : ∀ b o, h.get? b = some o → o.cls = .type "tuple" → h'.get? b = some o) : IsTi h' v ns := by
  obtain ⟨a, its, e, ⟨o, ho, hc, r⟩, i⟩ := x
  exact ⟨a, its, e, ⟨o, k _ _ ho hc, hc, r⟩, i⟩
section
variable {prog : Program} {w : World} {A : Around} {E : Value → Shared → Prop} {s : Shared}
theorem ti_general {v u : Value} {ns ms : List Int} {Q : Bool → Shared → Prop} (hu : A.units < cLine) (hv : IsTi s.heap v ns) (hw : IsTi s.heap u ms) (h : Q (HT.lexLt ns ms) s) : wpAny (model prog w) A (oneLt' false v u) Q E s := by
  obtain ⟨a, its, rfl, t1, i1⟩ := hv
  obtain ⟨b, its2, rfl, t2, i2⟩ := hw
  exact kat_one _ _ (HT.lt_tupInts t1 t2 i1 i2 hu h)
theorem ti_oneType {v u : Value} {ns ms : List Int} {Q : Bool → Shared → Prop} (hu : A.units < cLine) (hv : IsTi s.heap v ns) (hw : IsTi s.heap u ms) (h : Q (HT.lexLt ns ms) s) : wpAny (model prog w) A (oneLt' true v u) Q E s := by
  obtain ⟨a, its, rfl, ⟨⟨cls, dd, data, sl⟩, ho, hc, n, hd⟩, i1⟩ := hv
  obtain ⟨b, its2, rfl, ⟨⟨cls2, dd2, data2, sl2⟩, ho2, hc2, n2, hd2⟩, i2⟩ := hw
  simp only at hc hd hc2 hd2
  subst hc hd hc2 hd2
  rw [oneLt'_eq]
  simp only [if_true]
  refine wpAny_bind (wpAny_cRoomFor hu ?_)
  refine wpAny_bind (wpAny_callSpecialIfBound?_slot (T := "tuple") ⟨_, ho, rfl⟩ PySem.F.slot_tuple_lt (call_meets PySem.F.slot_tuple_lt ⟨_, ho, rfl⟩ PySem.F.entry_tuple_lt (PySem.F.args_tuple_lt_2 _ _) (HT.tuple_lt_ints a b its its2 n n2 dd dd2 sl sl2 ns ms i1 i2) ⟨ho, ho2, ?_⟩))
  exact wpAny_truthy_bool h
theorem ti_lex {m n : Nat} {Q : Bool → Shared → Prop} : ∀ {us vs : List Value} {ns ms : List Int} (i : Nat), IntsAre us ns → IntsAre vs ms → ns.length + n = ms.length + m → Q (HT.lexLt ns ms) s →
    KatLex prog w A true (decide (m < n)) Q (us.zip vs) i s
  | _, _, _, _, i, .nil, .nil, hl, h => by
    rw [HT.lexLt_nil_nil] at h
    refine kat_nil ?_
    rw [decide_eq_false (by simp at hl; omega)]
    exact h
  | _, _, _, _, i, .nil, .cons y u r, hl, h => by
    rw [HT.lexLt_nil_cons] at h
    refine kat_nil ?_
    rw [decide_eq_true (by simp at hl; omega)]
    exact h
  | _, _, _, _, i, .cons x t r, .nil, hl, h => by
    rw [HT.lexLt_cons_nil] at h
    refine kat_nil ?_
    rw [decide_eq_false (by simp at hl; omega)]
    exact h
  | _, _, _, _, i, .cons x t r, .cons y u r', hl, h => by
    rw [HT.lexLt_cons] at h
    refine kat_cons (SeqAt.EqAt.int_int x t y u prog w _ _ ?_)
    refine kat_go (fun e1 => ?_) (fun e1 => ?_)
    · have ex : x = y := by simpa using e1
      rw [if_pos ex] at h
      exact kat_yes (ti_lex (i + 1) r r' (by simp at hl; omega) h)
    · have ex : ¬ x = y := by simpa using e1
      rw [if_neg ex] at h
      refine kat_no ?_
      cases hb : (true && i == 0) with
      | true => exact oneLt_int h
      | false => exact kat_one _ _ (PyProof.Rows.lt_int h)
theorem ti_tuples {v u : Value} {ns ms : List Int} {Q : Bool → Shared → Prop} (hv : IsTi s.heap v ns) (hw : IsTi s.heap u ms) (h : Q (HT.lexLt ns ms) s) : wpAny (model prog w) A (keyLt' (tuples' true) v u) Q E s := by
  obtain ⟨a, its, rfl, ⟨o, ho, hc, n, hd⟩, i1⟩ := hv
  obtain ⟨b, its2, rfl, ⟨o2, ho2, hc2, n2, hd2⟩, i2⟩ := hw
  have z1 : its.size = ns.length := by rw [← i1.length]; simp
  have z2 : its2.size = ms.length := by rw [← i2.length]; simp
  exact kat_lt ho hd ho2 hd2 (ti_lex 0 i1 i2 (by omega) h)
/-- the first item -/
def fst0 (h : Heap) : Value → Option Value
  | .ref a => match h.get? a with
    | some o => match o.data with
      | .seq its _ => its[0]?
      | _ => none
    | none => none
  | _ => none
theorem fst0_of {h : Heap} {v : Value} {ns : List Int} (x : IsTi h v ns) : (ns = [] ∧ fst0 h v = none) ∨ (∃ i t, fst0 h v = some (.int i t) ∧ ns ≠ []) := by
  obtain ⟨a, its, rfl, ⟨o, ho, hc, n, hd⟩, i1⟩ := x
  have e : fst0 h (.ref a) = its[0]? := by
    simp only [fst0, ho, hd]
  rw [e, ← Array.getElem?_toList]
  generalize its.toList = l at i1
  cases i1 with
  | nil => exact .inl ⟨rfl, rfl⟩
  | cons i t r => exact .inr ⟨i, t, rfl, fun z => by cases z⟩
theorem ti_firsts {M : Model} : ∀ (vs : List Value) (k : Value → List Int) {Q : List (Option Value) → Shared → Prop}, (∀ v ∈ vs, IsTi s.heap v (k v)) → Q (vs.map (fst0 s.heap)) s → wpAny M A (vs.mapM firstOfTuple') Q E s
  | [], k, Q, hv, h => by rw [List.mapM_nil]; exact wpAny_pure h
  | v :: vs, k, Q, hv, h => by
    obtain ⟨a, its, rfl, ⟨o, ho, hc, n, hd⟩, i1⟩ := hv v List.mem_cons_self
    have e : fst0 s.heap (.ref a) = its[0]? := by simp only [fst0, ho, hd]
    rw [List.mapM_cons]
    refine wpAny_bind ?_
    rw [kas_first_eq]
    refine wpAny_bind (Looks.here (show Looks M s.heap (typeOf (.ref a)) o.cls from (Looks.ld ho).andThen .now) ?_)
    rw [hc, if_neg (by first | decide | simp)]
    refine wpAny_bind (listItems_at ho hd (wpAny_pure ?_))
    refine wpAny_bind (ti_firsts vs k (Q := fun bs s' => wpAny M A (pure (its[0]? :: bs)) Q E s') (fun u hu => hv u (List.mem_cons_of_mem _ hu)) (wpAny_pure ?_))
    rw [List.map_cons, e] at h
    exact h
theorem ti_tups {h : Heap} {k : Value → List Int} : ∀ vs : List Value, (∀ v ∈ vs, IsTi h v (k v)) → (∀ v ∈ vs, k v ≠ []) → ∃ fs : List Value, KatTups h vs fs ∧ fs.length = vs.length ∧ ∀ f ∈ fs, ∃ i t, f = Value.int i t
  | [], _, _ => ⟨[], KatTups.nil, rfl, fun f hf => absurd hf List.not_mem_nil⟩
  | v :: vs, hv, hn => by
    obtain ⟨fs, h1, h2, h3⟩ := ti_tups vs (fun u hu => hv u (List.mem_cons_of_mem _ hu)) (fun u hu => hn u (List.mem_cons_of_mem _ hu))
    have n1 := hn v List.mem_cons_self
    obtain ⟨a, its, rfl, ⟨o, ho, hc, n, hd⟩, i1⟩ := hv v List.mem_cons_self
    have : ∃ i t, its[0]? = some (.int i t) := by
      rw [← Array.getElem?_toList]
      generalize its.toList = l at i1
      generalize k (.ref a) = ns at i1 n1
      cases i1 with
      | nil => exact absurd rfl n1
      | cons i t r => exact ⟨i, t, rfl⟩
    obtain ⟨i, t, e⟩ := this
    refine ⟨.int i t :: fs, KatTups.cons ho hc hd e h1, by rw [List.length_cons, List.length_cons, h2], fun f hf => ?_⟩
    rcases List.mem_cons.mp hf with q | q
    · exact ⟨i, t, q⟩
    · exact h3 f q
theorem ti_sortable {a : Addr} {vs : List Value} {k : Value → List Int} (hu : A.units < cLine) (h0 : 2 ≤ vs.length) (hv : ∀ v ∈ vs, IsTi s.heap v (k v)) (ha : ∀ o, s.heap.get? a = some o → o.cls ≠ .type "tuple") :
    SrtO.SortableO prog w A s a vs fun v u => HT.lexLt (k v) (k u) := by
  intro h' keep
  have hv' : ∀ v ∈ vs, IsTi h' v (k v) := fun v hm => (hv v hm).keeps fun b o e c => keep b o (fun z => by subst z; exact ha o e c) e
  have c1 : SrtO.Cmp prog w A { s with heap := h' } (tuples' true) (fun p => p.1 ∈ vs) (SrtO.lt2 fun v u => HT.lexLt (k v) (k u)) := fun p q hp hq => ti_tuples (s := { s with heap := h' }) (hv' _ hp) (hv' _ hq) ⟨rfl, rfl⟩
  have c2 : SrtO.Cmp prog w A { s with heap := h' } general' (fun p => p.1 ∈ vs) (SrtO.lt2 fun v u => HT.lexLt (k v) (k u)) := fun p q hp hq => ti_general (s := { s with heap := h' }) hu (hv' _ hp) (hv' _ hq) ⟨rfl, rfl⟩
  have c3 : SrtO.Cmp prog w A { s with heap := h' } oneType' (fun p => p.1 ∈ vs) (SrtO.lt2 fun v u => HT.lexLt (k v) (k u)) := fun p q hp hq => ti_oneType (s := { s with heap := h' }) hu (hv' _ hp) (hv' _ hq) ⟨rfl, rfl⟩
  by_cases hall : ∀ v ∈ vs, k v ≠ []
  · obtain ⟨fs, h1, h2, h3⟩ := ti_tups vs hv' hall
    refine ⟨tuples' true, fun Q E hq => ?_, c1⟩
    refine kat_kind (s := { s with heap := h' }) (T := .type "int") h1 (by omega) (fun f hm => ?_) (by rfl) ?_
    · obtain ⟨x, t, rfl⟩ := h3 f hm
      exact Looks.now
    · have e : (Value.type "int" != Value.type "tuple") = true := by first | decide +kernel | rfl | decide
      rw [e]
      exact hq
  · have hno : ((vs.map (fst0 h')).toArray.all fun x => x.isSome) = false := by
      rw [List.all_toArray, List.all_map]
      cases hb : vs.all ((fun x => x.isSome) ∘ fst0 h') with
      | false => rfl
      | true =>
        exfalso
        refine hall fun v hm e => ?_
        have q := List.all_eq_true.mp hb v hm
        rcases fst0_of (hv' v hm) with ⟨_, z⟩ | ⟨i, t, _, n⟩
        · simp [z] at q
        · exact n e
    match vs, h0 with
    | v1 :: v2 :: rest, _ =>
      by_cases h1 : (fst0 h' v1).isSome = true
      · refine ⟨general', fun Q E hq => ?_, c2⟩
        rw [keyKind'_eq, List.mapM_toArray, map_eq_pure_bind]
        refine wpAny_bind (wpAny_bind (ti_firsts (s := { s with heap := h' }) _ k hv' (wpAny_pure ?_)))
        rw [if_neg (by rw [hno]; exact Bool.false_ne_true), if_pos (by simpa using h1)]
        exact wpAny_pure hq
      · refine ⟨oneType', fun Q E hq => ?_, c3⟩
        rw [keyKind'_eq, List.mapM_toArray, map_eq_pure_bind]
        refine wpAny_bind (wpAny_bind (ti_firsts (s := { s with heap := h' }) _ k hv' (wpAny_pure ?_)))
        rw [if_neg (by rw [hno]; exact Bool.false_ne_true), if_neg (by simpa using h1)]
        rw [oneTypeOnly'_eq, List.mapM_toArray, map_eq_pure_bind]
        refine wpAny_bind (wpAny_bind (wpAny_bind (kas_mapM (r := Value.type "tuple") _ (fun v hm Q' hq' => ?_) (wpAny_pure ?_))))
        · obtain ⟨a, its, rfl, ⟨o, ho, hc, n, hd⟩, i1⟩ := hv' v hm
          refine Looks.here (show Looks (model prog w) h' (typeOf (.ref a)) o.cls from (Looks.ld ho).andThen .now) ?_
          rw [hc]
          exact hq'
        · have h00 : (List.map (fun _ => Value.type "tuple") (v1 :: v2 :: rest)).toArray[0]? = some (Value.type "tuple") := by simp
          have ha2 : ((List.map (fun _ => Value.type "tuple") (v1 :: v2 :: rest)).toArray.all fun x => x == Value.type "tuple") = true := by
            simp only [List.all_toArray, List.all_map, List.all_eq_true]
            intro _ _
            rfl
          rw [h00]
          simp only [ha2, if_true]
          exact wpAny_pure (wpAny_pure hq)

/-- collect(x) over a dict's keys -/
theorem collect_src {T : String} {r d : Addr} {n : Nat} {P : Nat → Value → Prop} {OK : Heap → Prop} {R : List Value → Shared → Prop} (K : KdlSrc prog w T r d n P OK) (hh : A.handled = none) (hok : OK s.heap) (hn : n ≤ sizeLine)
    (h : ∀ (h' : Heap) (tk : Nat) (vs : List Value), (∀ b o, s.heap.get? b = some o → h'.get? b = some o) → s.heap.objs.size < h'.objs.size → vs.length = n → (∀ j v, vs[j]? = some v → P j v) → R vs { s with heap := h', toks := tk }) :
    wpAny (model prog w) A (collect (.ref r)) R E s := by
  have hr := (K.there _ hok).1
  have hd := (K.there _ hok).2
  unfold collect
  refine wpAny_bind (wpAny_runValue (codeAny_builtin PyProof.Rows.entry_proto_collect' ?_))
  rw [Around.under_plainId PySem.F.plain_proto_collect _]
  show wpAny _ A.in1 (newList [] >>= fun l => again (.builtin "list.__iadd__" ⟨[l, .ref r], []⟩)) _ _ s
  refine wpAny_bind (wpAny_newObj_type ?_)
  refine wpAny_pure ⟨plainId_quiet PySem.F.plain_list_iadd _, codeAny_builtin PyProof.Rows.entry_list_iadd' ?_⟩
  rw [Around.under_plainId PySem.F.plain_list_iadd _]
  have hS₁ : (s.heap.push { cls := .type "list", data := .seq ([] : List Value).toArray }).get? s.heap.objs.size = some { cls := .type "list", data := .seq #[] } := Heap.get?_push_size _ rfl
  show wpAny _ A.in1 (Builtin.List.listExtendWith (.ref s.heap.objs.size) (.ref r) (.ref s.heap.objs.size)) _ _ _
  have key := kdl_extend (A := A) (s := { s with heap := s.heap.push { cls := .type "list", data := .seq ([] : List Value).toArray } })
    (R := fun (q : Result) (s' : Shared) => ∃ (h' : Heap) (tk : Nat) (acc' : Array Value) (c' : Nat), q = .ok (.ret (.ref s.heap.objs.size)) ∧ s' = { s with heap := h', toks := tk } ∧
      (∀ b o, s.heap.get? b = some o → h'.get? b = some o) ∧ h'.get? s.heap.objs.size = some { cls := .type "list", dict := none, data := .seq acc' c', slots := #[] } ∧ ItemsOf P acc' n)
    K hh (K.keep _ _ hok fun b _ o e => Heap.get?_push_of_some _ e) s.heap.objs.size (Nat.ne_of_gt hr) (Nat.ne_of_gt hd) (.ref s.heap.objs.size) 0 hS₁
    (fun h' tk acc' c' hk hS' hacc => ⟨h', tk, acc', c', rfl, rfl, fun b o e => hk b o (Nat.ne_of_lt (Heap.lt_size e)) (Heap.get?_push_of_some _ e), hS', hacc⟩) hn
  have fin : ∀ {h' : Heap} {tk : Nat} {acc' : Array Value} {c' : Nat}, (∀ b o, s.heap.get? b = some o → h'.get? b = some o) → h'.get? s.heap.objs.size = some { cls := .type "list", dict := none, data := .seq acc' c', slots := #[] } → ItemsOf P acc' n → R acc'.toList { s with heap := h', toks := tk } :=
    fun {h' tk acc' c'} hk hS' hacc => h h' tk acc'.toList hk (Heap.lt_size hS') (by rw [Array.length_toList]; exact hacc.1) fun j v e => hacc.2 j v (by rw [← Array.getElem?_toList]; exact e)
  refine wpAny_mono key (fun f s' x => ?_) fun e s' x => ?_
  · cases f with
    | done f =>
      obtain ⟨h', tk, acc', c', e, rfl, hk, hS', hacc⟩ := x
      cases e
      show wpAny _ A (load s.heap.objs.size >>= _) _ _ _
      refine wpAny_bind (wpAny_load hS' ?_)
      exact wpAny_pure (fin hk hS' hacc)
    | again c₁ =>
      refine ⟨x.1, codeAny_mono x.2 fun q s₂ y => ?_⟩
      obtain ⟨h', tk, acc', c', rfl, rfl, hk, hS', hacc⟩ := y
      show wpAny _ A (load s.heap.objs.size >>= _) _ _ _
      refine wpAny_bind (wpAny_load hS' ?_)
      exact wpAny_pure (fin hk hS' hacc)
  · obtain ⟨_, _, _, _, e', _⟩ := x
    cases e'
end

/-! ### as a rule -/
def intsV : List V → List Int
  | [] => []
  | .int i :: r => i :: intsV r
  | _ :: r => intsV r
theorem intsV_map : ∀ ns : List Int, intsV (ns.map V.int) = ns
  | [] => rfl
  | n :: ns => by rw [List.map_cons]; show n :: intsV _ = _; rw [intsV_map ns]
def kTi (H : Hp) (a : Addr) : List Int := match H a with
  | some (.tup xs) => intsV xs
  | _ => []
theorem inl_kV (ns : List Int) : (ns.map (Sum.inl : Int → Key)).map kV = ns.map V.int := by
  rw [List.map_map]; rfl
def adV : Value → Addr
  | .ref a => a
  | _ => 0
/-- sorted(d) -/
def rSortedTD : List V → Hp → VK → Prop := fun vs H Q => ∃ (a : Addr) (kvs : List (List Key × V)) (kss : List (List Int)), vs = [V.ref a] ∧ H a = some (.dT kvs) ∧ kvs.map (·.1) = kss.map (fun ns => ns.map Sum.inl) ∧
  ∀ (bs : List Addr) (p : Addr), (∀ b ∈ bs, H b = some (.tup ((kTi H b).map V.int))) → (bs.map (kTi H)).Perm kss → (bs.map (kTi H)).Pairwise (fun x y => HT.lexLt y x = false) → H p = none → Q (.ref p) (upd H p (.lst (bs.map V.ref)))
theorem cr_sortedTD {X : Cx} (hc : X.calm = true) (hu : X.A.units + 64 < cLine) : CallR X (.builtin "sorted") rSortedTD := by
  intro pins s σ H vs us Q I r h
  obtain ⟨a, kvs, kss, rfl, ha, hk, q⟩ := h
  rw [Vals.ref1 r]
  obtain ⟨z, hs, ks, pr, o, es, ep, ho, hx, hdt, he, hn⟩ := (show ObjOk X.prog X.w H s.heap a (.dT kvs) from I.hok a _ ha)
  have l1 : es.size = ks.length := size_of_entries he
  have l2 : kvs.length = ks.length := Paired.length pr
  -- the keys' objects
  have keyAt : ∀ x ∈ ks, ∃ ns, ns ∈ kss ∧ x.1 = ns.map Sum.inl ∧ H x.2.1 = some (.tup (ns.map V.int)) := by
    have gen : ∀ {kvs : List (List Key × V)} {ks : List (List Key × Addr × Value)} {kss : List (List Int)}, KT H kvs ks → kvs.map (·.1) = kss.map (fun ns => ns.map Sum.inl) → ∀ x ∈ ks, ∃ ns, ns ∈ kss ∧ x.1 = ns.map Sum.inl ∧ H x.2.1 = some (.tup (ns.map V.int)) := by
      intro kvs ks kss t
      induction t generalizing kss with
      | nil => intro _ x hx; exact absurd hx List.not_mem_nil
      | @cons p y ps ys hpy _ ih =>
        intro e x hx
        cases kss with
        | nil => simp at e
        | cons ns kss =>
          rw [List.map_cons, List.map_cons] at e
          obtain ⟨e1, e2⟩ := List.cons.inj e
          rcases List.mem_cons.mp hx with q | q
          · subst q
            refine ⟨ns, List.mem_cons_self, hpy.1.symm.trans e1, ?_⟩
            have h2 := hpy.2.1
            rw [show p.1 = ns.map Sum.inl from e1, inl_kV] at h2
            exact h2
          · obtain ⟨m, h1, h2⟩ := ih e2 x q
            exact ⟨m, List.mem_cons_of_mem _ h1, h2⟩
    exact gen pr hk
  have kssEq : ks.map (fun x => kTi H x.2.1) = kss := by
    have gen : ∀ {kvs : List (List Key × V)} {ks : List (List Key × Addr × Value)} {kss : List (List Int)}, KT H kvs ks → kvs.map (·.1) = kss.map (fun ns => ns.map Sum.inl) → ks.map (fun x => kTi H x.2.1) = kss := by
      intro kvs ks kss t
      induction t generalizing kss with
      | nil => intro e; cases kss with
        | nil => rfl
        | cons _ _ => simp at e
      | @cons p y ps ys hpy _ ih =>
        intro e
        cases kss with
        | nil => simp at e
        | cons ns kss =>
          rw [List.map_cons, List.map_cons] at e
          obtain ⟨e1, e2⟩ := List.cons.inj e
          rw [List.map_cons, ih e2]
          congr 1
          have h2 := hpy.2.1
          rw [show p.1 = ns.map Sum.inl from e1, inl_kV] at h2
          simp only [kTi, h2, intsV_map]
    exact gen pr hk
  have hti : ∀ (h' : Heap), (∀ b o, s.heap.get? b = some o → h'.get? b = some o) → ∀ x ∈ ks, IsTi h' (.ref x.2.1) (kTi H x.2.1) := fun h' kp x hx => by
    obtain ⟨ns, _, _, h2⟩ := keyAt x hx
    obtain ⟨its, rv, ⟨o', ho', hc', rest⟩, _⟩ := I.tuple (SqT.of (K := X.K) h2)
    refine ⟨x.2.1, its.toArray, rfl, ⟨o', kp _ _ ho', hc', rest⟩, ?_⟩
    simp only [kTi, h2, intsV_map]
    exact intsAre_of rv
  refine Calls.call_function_entry PyProof.Rows.kind_sorted PyProof.Rows.plain_sorted PyProof.Rows.entry_sorted (PyProof.Rows.args_sorted1 _) ?_
  unfold Builtin.«sorted»
  refine wpAny_bind (m := checkCount "sorted" 1 1 _) (wpAny_pure ?_)
  refine wpAny_bind (collect_src (A := X.A.in1) (kdl_raw hs hx hdt) (I.ok.hd hc) ho (by omega) fun h' tk ws kp hlt hl hw => ?_)
  have ew : ws = (ks.map fun x => x.2.1).map Value.ref := by
    rw [List.map_map]
    apply List.ext_getElem?
    intro j
    rw [List.getElem?_map]
    cases hj : ws[j]? with
    | none =>
      have h1 := List.getElem?_eq_none_iff.mp hj
      rw [List.getElem?_eq_none (by omega)]
      rfl
    | some v =>
      obtain ⟨en, hen, hv⟩ := hw j v hj
      have qe := entry_at he j
      rw [hen] at qe
      cases hb : ks[j]? with
      | none =>
        rw [hb] at qe
        exact nomatch (show some en = none from qe)
      | some b =>
        rw [hb] at qe
        have e2 : en = entryOfKey (tupleKind (mixKind X.prog X.w)) b := Option.some.inj qe
        rw [hv, e2]
        rfl
  have hwz : ws.length ≤ sizeLine := by omega
  have mem_ws : ∀ v ∈ ws, ∃ x ∈ ks, v = .ref x.2.1 := fun v hv => by
    rw [ew, List.map_map] at hv
    obtain ⟨x, hx, e⟩ := List.mem_map.mp hv
    exact ⟨x, hx, e.symm⟩
  refine wpAny_bind (wpAny_newList ?_ hwz)
  have hoL : (h'.push (seqObj "list" ws.toArray 0)).get? h'.objs.size = some (seqObj "list" ws.toArray 0) := Heap.get?_push_size _ rfl
  show wpAny _ _ _ _ _ { s with heap := h'.push (seqObj "list" ws.toArray 0), toks := tk }
  have hti2 : ∀ v ∈ ws, IsTi (h'.push (seqObj "list" ws.toArray 0)) v (kTi H (adV v)) := fun v hv => by
    obtain ⟨x, hx, rfl⟩ := mem_ws v hv
    exact hti _ (fun b o e => Heap.get?_push_of_some _ (kp b o e)) x hx
  refine wpAny_bind (wpAny_holding (wpAny_call_entry PyProof.Rows.slot_list_sort ⟨_, hoL, rfl⟩ PyProof.Rows.entry_list_sort
    (SrtO.list_sort_ord (NtL.swo_lexL fun u => kTi H (adV u)) hoL hwz (fun h2 => ti_sortable (by have e : X.A.in1.in1.units = X.A.units + 1 + 1 := rfl; omega) h2 hti2 fun o' e => ?_) fun out hs' hb => ⟨_, rfl, ?_⟩) (PyProof.Rows.args_list_sort _)))
  · have e' : some o' = some (seqObj "list" ws.toArray 0) := e.symm.trans hoL
    cases e'
    intro c
    have c' : Value.type "list" = Value.type "tuple" := c
    injection c' with c''
    exact absurd c'' (by decide)
  · refine wpAny_pure ⟨_, rfl, ?_⟩
    have mem_out : ∀ v ∈ out, ∃ x ∈ ks, v = .ref x.2.1 := fun v hv => mem_ws v (hb.perm.mem_iff.mp hv)
    obtain ⟨ep', he'⟩ := PyProof.Rows.sortedHeap_at (vs := ws) (out := out.toArray) hoL
    have eo : out = (out.map adV).map Value.ref := by
      have gen : ∀ l : List Value, (∀ v ∈ l, ∃ x ∈ ks, v = .ref x.2.1) → l = (l.map adV).map Value.ref := by
        intro l
        induction l with
        | nil => intro _; rfl
        | cons v l ih =>
          intro hl
          obtain ⟨x, _, e⟩ := hl v List.mem_cons_self
          rw [List.map_cons, List.map_cons, ← ih fun u hu => hl u (List.mem_cons_of_mem _ hu), e]
          rfl
      exact gen out mem_out
    have keep2 : ∀ b ob, s.heap.get? b = some ob → (PyProof.Rows.sortedHeap (h'.push (seqObj "list" ws.toArray 0)) h'.objs.size ws out.toArray).get? b = some ob := fun b ob e => by
      have e1 := kp b ob e
      have hb1 : b < h'.objs.size := Heap.lt_size e1
      rw [PyProof.Rows.sortedHeap_old (Nat.ne_of_lt hb1) (by rw [Heap.size_push]; exact Nat.lt_succ_of_lt hb1)]
      exact Heap.get?_push_of_some _ e1
    have hlen : ((out.map adV).map V.ref).length ≤ sizeLine := by
      rw [List.length_map, List.length_map, hb.perm.length_eq]; exact hwz
    have rvo : Vals ((out.map adV).map V.ref) out := by
      have z := vals_refs (out.map adV)
      rw [← eo] at z
      exact z
    have hge : s.heap.objs.size ≤ h'.objs.size := Nat.le_of_lt hlt
    refine ⟨.ref h'.objs.size, upd H h'.objs.size (.lst ((out.map adV).map V.ref)), I.laid (t' := tk) keep2 hge ⟨hlen, out, ep', rvo, he'⟩, rfl, q (out.map adV) _ (fun b hb' => ?_) ?_ ?_ (I.hok.fresh hge)⟩
    · obtain ⟨v, hv, rfl⟩ := List.mem_map.mp hb'
      obtain ⟨x, hx, rfl⟩ := mem_out v hv
      obtain ⟨ns, _, _, h2⟩ := keyAt x hx
      show H x.2.1 = some (.tup ((kTi H x.2.1).map V.int))
      simp only [kTi, h2, intsV_map]
    · have p1 := (hb.perm.map adV).map (kTi H)
      rw [ew] at p1
      have e3 : ((((ks.map fun x => x.2.1).map Value.ref).map adV).map (kTi H)) = kss := by
        rw [← kssEq, List.map_map, List.map_map, List.map_map]; rfl
      rw [e3] at p1
      exact p1
    · rw [List.map_map]
      exact List.pairwise_map.mpr (hs'.imp fun {x y} z => z)

/-! ### the mirror -/
def insL (p : List Int) : List (List Int) → List (List Int)
  | [] => [p]
  | q :: r => if HT.lexLt q p = true then q :: insL p r else p :: q :: r
def srtL : List (List Int) → List (List Int)
  | [] => []
  | p :: r => insL p (srtL r)
theorem insL_perm (p : List Int) : ∀ l, (insL p l).Perm (p :: l)
  | [] => List.Perm.refl _
  | q :: r => by
    unfold insL
    split
    · exact ((insL_perm p r).cons q).trans (List.Perm.swap p q r)
    · exact List.Perm.refl _
theorem srtL_perm : ∀ l, (srtL l).Perm l
  | [] => List.Perm.refl _
  | p :: r => (insL_perm p _).trans ((srtL_perm r).cons p)
theorem lexLt_tot : ∀ {p q : List Int}, HT.lexLt p q = false → HT.lexLt q p = false → p = q
  | [], [], _, _ => rfl
  | [], _ :: _, h, _ => by rw [HT.lexLt_nil_cons] at h; cases h
  | _ :: _, [], _, h => by rw [HT.lexLt_nil_cons] at h; cases h
  | x :: xs, y :: ys, h1, h2 => by
    rw [HT.lexLt_cons] at h1 h2
    by_cases e : x = y
    · rw [if_pos e] at h1
      rw [if_pos e.symm] at h2
      rw [e, lexLt_tot h1 h2]
    · rw [if_neg e] at h1
      rw [if_neg (Ne.symm e)] at h2
      have a := of_decide_eq_false h1
      have b := of_decide_eq_false h2
      omega
theorem insL_srt (p : List Int) : ∀ l, l.Pairwise (fun x y => HT.lexLt y x = false) → (insL p l).Pairwise (fun x y => HT.lexLt y x = false)
  | [], _ => List.pairwise_singleton _ _
  | q :: r, h => by
    obtain ⟨h1, h2⟩ := List.pairwise_cons.mp h
    unfold insL
    split
    · rename_i hq
      refine List.pairwise_cons.mpr ⟨fun y hy => ?_, insL_srt p r h2⟩
      rcases List.mem_cons.mp ((insL_perm p r).mem_iff.mp hy) with e | hy
      · subst e; exact NtL.lex_asym _ _ hq
      · exact h1 y hy
    · rename_i hq
      have hq : HT.lexLt q p = false := by simpa using hq
      refine List.pairwise_cons.mpr ⟨fun y hy => ?_, h⟩
      rcases List.mem_cons.mp hy with e | hy
      · rw [e]; exact hq
      · exact NtL.lex_tr _ _ _ hq (h1 y hy)
theorem srtL_srt : ∀ l, (srtL l).Pairwise (fun x y => HT.lexLt y x = false)
  | [] => List.Pairwise.nil
  | p :: r => insL_srt p _ (srtL_srt r)
theorem srtL_uniq : ∀ {l m : List (List Int)}, l.Pairwise (fun x y => HT.lexLt y x = false) → m.Pairwise (fun x y => HT.lexLt y x = false) → l.Perm m → l = m
  | [], m, _, _, h => (List.Perm.eq_nil h.symm).symm
  | x :: l, [], _, _, h => absurd h.length_eq (by simp)
  | x :: l, y :: m, hl, hm, h => by
    have a := List.pairwise_cons.mp hl
    have b := List.pairwise_cons.mp hm
    have e : x = y := by
      rcases List.mem_cons.mp (h.mem_iff.mp (List.mem_cons_self (a := x) (l := l))) with e | hx
      · exact e
      · rcases List.mem_cons.mp (h.mem_iff.mpr (List.mem_cons_self (a := y) (l := m))) with e | hy
        · exact e.symm
        · exact lexLt_tot (b.1 x hx) (a.1 y hy)
    subst e
    rw [srtL_uniq a.2 b.2 h.cons_inv]
def intK : Key → Option Int
  | .inl i => some i
  | _ => none
def intsK : List Key → Option (List Int)
  | [] => some []
  | k :: r => (intK k).bind fun i => (intsK r).map (i :: ·)
def intsKK : List (List Key) → Option (List (List Int))
  | [] => some []
  | k :: r => (intsK k).bind fun i => (intsKK r).map (i :: ·)
theorem intsK_inv : ∀ {l : List Key} {ns : List Int}, intsK l = some ns → l = ns.map Sum.inl
  | [], ns, h => by cases h; rfl
  | k :: r, ns, h => by
    obtain ⟨i, h1, h⟩ := bnd (show ((intK k).bind fun i => (intsK r).map (i :: ·)) = some ns from h)
    obtain ⟨l, h2, rfl⟩ := Option.map_eq_some_iff.mp h
    cases k with
    | inl j => cases h1; rw [intsK_inv h2]; rfl
    | inr x => cases h1
theorem intsKK_inv : ∀ {l : List (List Key)} {ns : List (List Int)}, intsKK l = some ns → l = ns.map (fun m => m.map Sum.inl)
  | [], ns, h => by cases h; rfl
  | k :: r, ns, h => by
    obtain ⟨i, h1, h⟩ := bnd (show ((intsK k).bind fun i => (intsKK r).map (i :: ·)) = some ns from h)
    obtain ⟨l, h2, rfl⟩ := Option.map_eq_some_iff.mp h
    rw [intsK_inv h1, intsKK_inv h2]; rfl
def dTup (ns : List Int) : D := .tup (ns.map D.int)
/-- built-ins that read the shared things -/
def eNS (f : Sto → List D → Option D) (as : Env' → M (List D)) : Env' → M D := fun ρ S => (as ρ S).bind fun r => (f r.2 r.1).bind fun z => some (z, r.2)
def RefNS (K : PySem.W.Frag) (r : List V → Hp → VK → Prop) (f : Sto → List D → Option D) : Prop := ∀ G S H xs ds z Q, Good K G S H → RpA K G H xs ds → f S ds = some z → Kq K G S H z Q → r xs H Q
section
variable {X : Cx} {a : Expr} {es : List Expr} {ms : Env' → M (List D)} {pos : Pos}
theorem je_callBS {id : String} {x : Str} {r : List V → Hp → VK → Prop} {f : Sto → List D → Option D} {p : Pos} (hc : CallR X (.builtin id) r) (hr : RefNS X.K r f) (hg : Gl X x) (hm : X.mg x = none) (hv : bootBuiltins x = some (.builtin id)) (ha : JA X (a :: es) ms) (hn : x ≠ "__name__" := by decide) (hdb : (x == ("__debug__" : Str)) = false := by decide)
    (he : starEach (a :: es) X.env = (false, eval a X.env) :: starEach es X.env := by rfl) (hpl : (backTo pos (starEach es X.env)).any (·.1) = false := by rfl) : JE X (.Call (.Name x p) (a :: es) [] pos) (eNS f ms) := pe_mono (pe_callB hc hg hm hv ha hn hdb he hpl) fun σ H Q ⟨G, ρ, S, d, S', r, g, e, k⟩ => by
  obtain ⟨⟨d1, S1⟩, e1, e⟩ := bnd e
  obtain ⟨z, ez, e⟩ := bnd e
  cases e
  exact ⟨G, ρ, S, d1, S1, r, g, e1, fun G1 x H1 x1 g1 r1 => hr G1 S1 H1 x d1 _ Q g1 r1 ez fun G3 v H3 x3 g3 r3 => k G3 v H3 (x1.trans x3) g3 r3⟩
end
def fSortedS (S : Sto) : List D → Option D
  | [.ob n] => match S[n]? with
    | some (.dT kvs) => if kvs.length ≤ sizeLine then (intsKK (kvs.map (·.1))).bind fun ks => if ks.all (fun k => decide (k.length ≤ 1000)) = true then some (.lst ((srtL ks).map dTup)) else none else none
    | _ => none
  | ds => fSorted ds
abbrev rSortedJ (K : PySem.W.Frag) : List V → Hp → VK → Prop := fun vs H Q => rSortedPO K vs H Q ∨ rSortedTD vs H Q
theorem call_sortedS {X : Cx} (hc : X.calm = true) (hu : X.A.units + 64 < cLine) : CallR X (.builtin "sorted") (rSortedJ X.K) := cr_sortedPO.or (cr_sortedTD hc hu)
theorem RpA.ofTups {K : PySem.W.Frag} {G : Gh} {H : Hp} : ∀ {bs : List Addr}, (∀ b ∈ bs, H b = some (.tup ((kTi H b).map V.int)) ∧ (kTi H b).length ≤ sizeLine) → RpA K G H (bs.map V.ref) ((bs.map (kTi H)).map dTup)
  | [], _ => .nil
  | b :: bs, h => .cons (.tup (h b List.mem_cons_self).1 (by rw [List.length_map]; exact (h b List.mem_cons_self).2) (RpA.ofInts _)) (RpA.ofTups fun c hc => h c (List.mem_cons_of_mem _ hc))
theorem ref_sortedS {K : PySem.W.Frag} : RefNS K (rSortedJ K) fSortedS := by
  intro G S H xs ds z Q g r h k
  match ds, h with
  | [.ob n], h =>
    simp only [fSortedS] at h
    split at h
    · rename_i kvs hc
      obtain ⟨hz, h⟩ := ifs' h
      obtain ⟨ks, h1, h⟩ := bnd h
      obtain ⟨h2, rfl⟩ := ifs h
      obtain ⟨v, rfl, q1⟩ := rpa1 r
      obtain ⟨a, rfl, hm, vs, e2, e3, r2⟩ := cell_at g q1 hc
      refine .inr ⟨a, vs, ks, rfl, e2, e3.trans (intsKK_inv h1), fun bs p hb hp hs hp0 => ?_⟩
      have e4 : bs.map (kTi H) = srtL ks := srtL_uniq hs (srtL_srt ks) (hp.trans (srtL_perm ks).symm)
      have hlen : bs.length ≤ sizeLine := by
        have l1 := congrArg List.length e4
        have l2 := (srtL_perm ks).length_eq
        have l3 := congrArg List.length (intsKK_inv h1)
        rw [List.length_map] at l1
        rw [List.length_map, List.length_map] at l3
        omega
      refine k.newL g (by rw [List.length_map]; exact hlen) ?_ p hp0
      rw [← e4]
      refine RpA.ofTups fun b hb' => ⟨hb b hb', ?_⟩
      have hm : kTi H b ∈ ks := (srtL_perm ks).mem_iff.mp (by rw [← e4]; exact List.mem_map_of_mem hb')
      have := of_decide_eq_true (List.all_eq_true.mp h2 _ hm)
      exact Nat.le_trans this (by decide)
    · cases h
  | [.lst ys], h => exact (ref_sorted G S H xs [.lst ys] z Q g r h k) |> .inl
end J
end
section
set_option Elab.async false
set_option linter.all false
set_option maxRecDepth 100000
set_option maxHeartbeats 2000000
/-! J14: what a law's defs are, from the head. Own work. -/
namespace J
open PySem PySem.Spec PyProof.Rows L2
section
variable {P : Program} {w : World} {K : PySem.W.Frag} {mg : Str → Option Value} {base : Heap} {x : Str} {params : Arguments} {body : List Stmt} {scope : Scope} {dvs : List V} {fd : FuncData} {k : Nat} {ps : List Str} {fn : List D → M D}
theorem okF_of (F : FunD K x x params body scope [] [] (He.ga K x) fd) (O : FnOk P w K mg base CX0 k (He.ga K x) fd ps (spF K fn)) (at_ : mg x = some (.ref (He.ga K x)))
    (h : ∀ (kV doc pm : Value) (an : Option Addr) (cdv ct : Value) (us : List Value), us.length = ps.length → bindArgs (PySem.W.fnOf x x params body scope .none kV doc pm an cdv ct) ⟨us, []⟩ = pure (ps.zip us)) : OkF P w K mg base k x ps fn :=
  ⟨⟨fd, O, F.bindsN h⟩, F.kp, at_⟩
theorem okK_of (F : FunD K x x params body scope [] [] (He.ga K x) fd) (O : FnOk P w K mg base CX0 k (He.ga K x) fd ps (spF K fn)) (at_ : mg x = some (.ref (He.ga K x)))
    (h : ∀ (kV doc pm : Value) (an : Option Addr) (cdv ct : Value) (ws : List Value), ws.length = ps.length → bindArgs (PySem.W.fnOf x x params body scope .none kV doc pm an cdv ct) ⟨[], ps.zip ws⟩ = pure (ps.zip ws)) : OkK P w K mg base k x ps fn := by
  refine ⟨⟨fd, O, fun s ws hl => ?_⟩, F.kp, at_⟩
  obtain ⟨oc, od, dV, kV, doc, pm, an, cdv, ct, osl, rfl, lk, hcd, hD, hK⟩ := F.ex
  rcases hD with ⟨_, rfl⟩ | ⟨e, _⟩
  · exact .of_eq (h kV doc pm an cdv ct ws hl)
  · exact absurd rfl e
/-- all given, though the last ones have defaults -/
theorem okFd_of (F : FunD K x x params body scope dvs [] (He.ga K x) fd) (O : FnOk P w K mg base CX0 k (He.ga K x) fd ps (spF K fn)) (at_ : mg x = some (.ref (He.ga K x))) (hd : dvs ≠ [])
    (h : ∀ (T : Addr) (kV doc pm : Value) (an : Option Addr) (cdv ct : Value) (us its : List Value), us.length = ps.length → its.length = dvs.length →
      ∃ k, bindArgs (PySem.W.fnOf x x params body scope (.ref T) kV doc pm an cdv ct) ⟨us, []⟩ = seqItems? (.ref T) >>= k ∧ k (some its.toArray) = pure (ps.zip (us ++ its.drop dvs.length))) : OkF P w K mg base k x ps fn := by
  obtain ⟨ds, v, b⟩ := F.binds1 (ps := ps) ps.length dvs.length hd (by omega) h
  rw [List.drop_length] at v
  cases v
  exact ⟨⟨fd, O, b⟩, F.kp, at_⟩
theorem okD_of {dd : List D} (F : FunD K x x params body scope dvs [] (He.ga K x) fd) (O : FnOk P w K mg base CX0 k (He.ga K x) fd ps (spF K fn)) (at_ : mg x = some (.ref (He.ga K x))) (hd : dvs ≠ []) (hn : dvs.length ≤ ps.length) (hdd : ∀ G H, RpA K G H dvs dd)
    (h : ∀ (T : Addr) (kV doc pm : Value) (an : Option Addr) (cdv ct : Value) (us its : List Value), us.length = ps.length - dvs.length → its.length = dvs.length →
      ∃ k, bindArgs (PySem.W.fnOf x x params body scope (.ref T) kV doc pm an cdv ct) ⟨us, []⟩ = seqItems? (.ref T) >>= k ∧ k (some its.toArray) = pure (ps.zip (us ++ its.drop 0))) : OkD P w K mg base k x ps fn dd := by
  obtain ⟨ds, v, b⟩ := F.binds1 (ps := ps) (ps.length - dvs.length) 0 hd (by omega) h
  rw [List.drop_zero] at v
  exact ⟨⟨fd, dvs, ds, O, b, v, hdd⟩, F.kp, at_⟩
end
end J
end
section
set_option Elab.async false
set_option linter.all false
set_option maxRecDepth 100000
set_option maxHeartbeats 0
namespace Hd
open PySem PySem.Spec PyProof.Rows L2
def top (i : Nat) : Stmt := PySem.Challenge.pw_draftward_k79_whole_texts_there_and_back.main.body.getD i (.Pass ⟨0, 0, 0, 0⟩)
abbrev s_is_integer : Stmt := top 11
abbrev s_is_from : Stmt := top 12
abbrev s_are_letters : Stmt := top 13
abbrev s_is_pair_below : Stmt := top 14
abbrev s_is_vocabulary_value : Stmt := top 15
abbrev s_need_vocabulary : Stmt := top 16
abbrev s_are_tokens_below : Stmt := top 17
abbrev s_size_raw : Stmt := top 18
abbrev s_pieces_of : Stmt := top 19
abbrev s_are_weights : Stmt := top 25
abbrev s_is_entry : Stmt := top 26
abbrev s_is_window : Stmt := top 27
abbrev s_is_vector : Stmt := top 28
abbrev s_are_vectors : Stmt := top 29
abbrev s_is_layer : Stmt := top 30
abbrev s_is_net : Stmt := top 31
abbrev s_is_model_value : Stmt := top 32
abbrev s_need_model : Stmt := top 33
abbrev s_are_model_tokens : Stmt := top 34
abbrev s_clipped : Stmt := top 35
abbrev s_scalar : Stmt := top 36
abbrev s_times : Stmt := top 37
abbrev s_plus : Stmt := top 38
abbrev s_shares_of : Stmt := top 39
abbrev s_layer_done : Stmt := top 40
abbrev s_net_step : Stmt := top 41
abbrev s_window_weights : Stmt := top 42
abbrev s_step_raw : Stmt := top 43
abbrev s_all_rows : Stmt := top 44
abbrev s_weights_raw : Stmt := top 45
abbrev s_words_of : Stmt := top 49
abbrev s_vocabulary_lines : Stmt := top 50
abbrev s_model_lines : Stmt := top 51
abbrev s_integer_of : Stmt := top 52
abbrev s_integers_of : Stmt := top 53
abbrev s_numbers_behind : Stmt := top 54
abbrev s_read_vocabulary_lines : Stmt := top 55
abbrev s_entry_of : Stmt := top 56
abbrev s_read_window_lines : Stmt := top 57
abbrev s_taken_from : Stmt := top 58
abbrev s_read_net_lines : Stmt := top 59
abbrev s_read_model_lines : Stmt := top 60
abbrev s_model_text : Stmt := top 62
abbrev s_vocabulary_text : Stmt := top 63
abbrev s_rows_of_text : Stmt := top 64
abbrev s_read_model : Stmt := top 65
abbrev s_read_vocabulary : Stmt := top 66
abbrev s_need_tokens : Stmt := top 68
abbrev s_model_weights : Stmt := top 69
abbrev s__law_deck : Stmt := top 71
abbrev s__law_draw : Stmt := top 72
abbrev s__law_pick : Stmt := top 73
abbrev s__law_dot : Stmt := top 74
abbrev s__law_times : Stmt := top 75
abbrev s__law_clipped : Stmt := top 76
abbrev s__law_looked : Stmt := top 77
abbrev s__law_seen : Stmt := top 78
abbrev s__law_some_weights : Stmt := top 79
abbrev s__law_window : Stmt := top 80
abbrev s__law_vectors : Stmt := top 81
abbrev s__law_net : Stmt := top 82
abbrev s__law_vocabulary : Stmt := top 83
abbrev s__law_words : Stmt := top 84
abbrev s__law_model_text : Stmt := top 85
abbrev s__law_vocabulary_text : Stmt := top 86
abbrev s_law : Stmt := top 87
def d_is_integer : He.DefD := ⟨("is_integer", none), "is_integer", "is_integer", defArgs s_is_integer, defBody s_is_integer, defScope s_is_integer, [], []⟩
def d_is_from : He.DefD := ⟨("is_from", none), "is_from", "is_from", defArgs s_is_from, defBody s_is_from, defScope s_is_from, [], []⟩
def d_are_letters : He.DefD := ⟨("are_letters", none), "are_letters", "are_letters", defArgs s_are_letters, defBody s_are_letters, defScope s_are_letters, [], []⟩
def d_is_pair_below : He.DefD := ⟨("is_pair_below", none), "is_pair_below", "is_pair_below", defArgs s_is_pair_below, defBody s_is_pair_below, defScope s_is_pair_below, [], []⟩
def d_is_vocabulary_value : He.DefD := ⟨("is_vocabulary_value", none), "is_vocabulary_value", "is_vocabulary_value", defArgs s_is_vocabulary_value, defBody s_is_vocabulary_value, defScope s_is_vocabulary_value, [], []⟩
def d_need_vocabulary : He.DefD := ⟨("need_vocabulary", none), "need_vocabulary", "need_vocabulary", defArgs s_need_vocabulary, defBody s_need_vocabulary, defScope s_need_vocabulary, [], []⟩
def d_are_tokens_below : He.DefD := ⟨("are_tokens_below", none), "are_tokens_below", "are_tokens_below", defArgs s_are_tokens_below, defBody s_are_tokens_below, defScope s_are_tokens_below, [], []⟩
def d_size_raw : He.DefD := ⟨("size_raw", none), "size_raw", "size_raw", defArgs s_size_raw, defBody s_size_raw, defScope s_size_raw, [], []⟩
def d_pieces_of : He.DefD := ⟨("pieces_of", none), "pieces_of", "pieces_of", defArgs s_pieces_of, defBody s_pieces_of, defScope s_pieces_of, [], []⟩
def d_are_weights : He.DefD := ⟨("are_weights", none), "are_weights", "are_weights", defArgs s_are_weights, defBody s_are_weights, defScope s_are_weights, [], []⟩
def d_is_entry : He.DefD := ⟨("is_entry", none), "is_entry", "is_entry", defArgs s_is_entry, defBody s_is_entry, defScope s_is_entry, [], []⟩
def d_is_window : He.DefD := ⟨("is_window", none), "is_window", "is_window", defArgs s_is_window, defBody s_is_window, defScope s_is_window, [], []⟩
def d_is_vector : He.DefD := ⟨("is_vector", none), "is_vector", "is_vector", defArgs s_is_vector, defBody s_is_vector, defScope s_is_vector, [], []⟩
def d_are_vectors : He.DefD := ⟨("are_vectors", none), "are_vectors", "are_vectors", defArgs s_are_vectors, defBody s_are_vectors, defScope s_are_vectors, [], []⟩
def d_is_layer : He.DefD := ⟨("is_layer", none), "is_layer", "is_layer", defArgs s_is_layer, defBody s_is_layer, defScope s_is_layer, [], []⟩
def d_is_net : He.DefD := ⟨("is_net", none), "is_net", "is_net", defArgs s_is_net, defBody s_is_net, defScope s_is_net, [], []⟩
def d_is_model_value : He.DefD := ⟨("is_model_value", none), "is_model_value", "is_model_value", defArgs s_is_model_value, defBody s_is_model_value, defScope s_is_model_value, [], []⟩
def d_need_model : He.DefD := ⟨("need_model", none), "need_model", "need_model", defArgs s_need_model, defBody s_need_model, defScope s_need_model, [], []⟩
def d_are_model_tokens : He.DefD := ⟨("are_model_tokens", none), "are_model_tokens", "are_model_tokens", defArgs s_are_model_tokens, defBody s_are_model_tokens, defScope s_are_model_tokens, [], []⟩
def d_clipped : He.DefD := ⟨("clipped", none), "clipped", "clipped", defArgs s_clipped, defBody s_clipped, defScope s_clipped, [], []⟩
def d_scalar : He.DefD := ⟨("scalar", none), "scalar", "scalar", defArgs s_scalar, defBody s_scalar, defScope s_scalar, [], []⟩
def d_times : He.DefD := ⟨("times", none), "times", "times", defArgs s_times, defBody s_times, defScope s_times, [], []⟩
def d_plus : He.DefD := ⟨("plus", none), "plus", "plus", defArgs s_plus, defBody s_plus, defScope s_plus, [], []⟩
def d_shares_of : He.DefD := ⟨("shares_of", none), "shares_of", "shares_of", defArgs s_shares_of, defBody s_shares_of, defScope s_shares_of, [], []⟩
def d_layer_done : He.DefD := ⟨("layer_done", none), "layer_done", "layer_done", defArgs s_layer_done, defBody s_layer_done, defScope s_layer_done, [], []⟩
def d_net_step : He.DefD := ⟨("net_step", none), "net_step", "net_step", defArgs s_net_step, defBody s_net_step, defScope s_net_step, [], []⟩
def d_window_weights : He.DefD := ⟨("window_weights", none), "window_weights", "window_weights", defArgs s_window_weights, defBody s_window_weights, defScope s_window_weights, [], []⟩
def d_step_raw : He.DefD := ⟨("step_raw", none), "step_raw", "step_raw", defArgs s_step_raw, defBody s_step_raw, defScope s_step_raw, [], []⟩
def d_all_rows : He.DefD := ⟨("all_rows", none), "all_rows", "all_rows", defArgs s_all_rows, defBody s_all_rows, defScope s_all_rows, [], []⟩
def d_weights_raw : He.DefD := ⟨("weights_raw", none), "weights_raw", "weights_raw", defArgs s_weights_raw, defBody s_weights_raw, defScope s_weights_raw, [], []⟩
def d_words_of : He.DefD := ⟨("words_of", none), "words_of", "words_of", defArgs s_words_of, defBody s_words_of, defScope s_words_of, [], []⟩
def d_vocabulary_lines : He.DefD := ⟨("vocabulary_lines", none), "vocabulary_lines", "vocabulary_lines", defArgs s_vocabulary_lines, defBody s_vocabulary_lines, defScope s_vocabulary_lines, [], []⟩
def d_model_lines : He.DefD := ⟨("model_lines", none), "model_lines", "model_lines", defArgs s_model_lines, defBody s_model_lines, defScope s_model_lines, [], []⟩
def d_integer_of : He.DefD := ⟨("integer_of", none), "integer_of", "integer_of", defArgs s_integer_of, defBody s_integer_of, defScope s_integer_of, [], []⟩
def d_integers_of : He.DefD := ⟨("integers_of", none), "integers_of", "integers_of", defArgs s_integers_of, defBody s_integers_of, defScope s_integers_of, [], []⟩
def d_numbers_behind : He.DefD := ⟨("numbers_behind", none), "numbers_behind", "numbers_behind", defArgs s_numbers_behind, defBody s_numbers_behind, defScope s_numbers_behind, [], []⟩
def d_read_vocabulary_lines : He.DefD := ⟨("read_vocabulary_lines", none), "read_vocabulary_lines", "read_vocabulary_lines", defArgs s_read_vocabulary_lines, defBody s_read_vocabulary_lines, defScope s_read_vocabulary_lines, [], []⟩
def d_entry_of : He.DefD := ⟨("entry_of", none), "entry_of", "entry_of", defArgs s_entry_of, defBody s_entry_of, defScope s_entry_of, [], []⟩
def d_read_window_lines : He.DefD := ⟨("read_window_lines", none), "read_window_lines", "read_window_lines", defArgs s_read_window_lines, defBody s_read_window_lines, defScope s_read_window_lines, [], []⟩
def d_taken_from : He.DefD := ⟨("taken_from", none), "taken_from", "taken_from", defArgs s_taken_from, defBody s_taken_from, defScope s_taken_from, [], []⟩
def d_read_net_lines : He.DefD := ⟨("read_net_lines", none), "read_net_lines", "read_net_lines", defArgs s_read_net_lines, defBody s_read_net_lines, defScope s_read_net_lines, [], []⟩
def d_read_model_lines : He.DefD := ⟨("read_model_lines", none), "read_model_lines", "read_model_lines", defArgs s_read_model_lines, defBody s_read_model_lines, defScope s_read_model_lines, [], []⟩
def d_model_text : He.DefD := ⟨("model_text", none), "model_text", "model_text", defArgs s_model_text, defBody s_model_text, defScope s_model_text, [], []⟩
def d_vocabulary_text : He.DefD := ⟨("vocabulary_text", none), "vocabulary_text", "vocabulary_text", defArgs s_vocabulary_text, defBody s_vocabulary_text, defScope s_vocabulary_text, [], []⟩
def d_rows_of_text : He.DefD := ⟨("rows_of_text", none), "rows_of_text", "rows_of_text", defArgs s_rows_of_text, defBody s_rows_of_text, defScope s_rows_of_text, [], []⟩
def d_read_model : He.DefD := ⟨("read_model", none), "read_model", "read_model", defArgs s_read_model, defBody s_read_model, defScope s_read_model, [], []⟩
def d_read_vocabulary : He.DefD := ⟨("read_vocabulary", none), "read_vocabulary", "read_vocabulary", defArgs s_read_vocabulary, defBody s_read_vocabulary, defScope s_read_vocabulary, [], []⟩
def d_need_tokens : He.DefD := ⟨("need_tokens", none), "need_tokens", "need_tokens", defArgs s_need_tokens, defBody s_need_tokens, defScope s_need_tokens, [], []⟩
def d_model_weights : He.DefD := ⟨("model_weights", none), "model_weights", "model_weights", defArgs s_model_weights, defBody s_model_weights, defScope s_model_weights, [], []⟩
def d__law_deck : He.DefD := ⟨("_law_deck", none), "_law_deck", "_law_deck", defArgs s__law_deck, defBody s__law_deck, defScope s__law_deck, [], []⟩
def d__law_draw : He.DefD := ⟨("_law_draw", none), "_law_draw", "_law_draw", defArgs s__law_draw, defBody s__law_draw, defScope s__law_draw, [], []⟩
def d__law_pick : He.DefD := ⟨("_law_pick", none), "_law_pick", "_law_pick", defArgs s__law_pick, defBody s__law_pick, defScope s__law_pick, [], []⟩
def d__law_dot : He.DefD := ⟨("_law_dot", none), "_law_dot", "_law_dot", defArgs s__law_dot, defBody s__law_dot, defScope s__law_dot, [], []⟩
def d__law_times : He.DefD := ⟨("_law_times", none), "_law_times", "_law_times", defArgs s__law_times, defBody s__law_times, defScope s__law_times, [], []⟩
def d__law_clipped : He.DefD := ⟨("_law_clipped", none), "_law_clipped", "_law_clipped", defArgs s__law_clipped, defBody s__law_clipped, defScope s__law_clipped, [], []⟩
def d__law_looked : He.DefD := ⟨("_law_looked", none), "_law_looked", "_law_looked", defArgs s__law_looked, defBody s__law_looked, defScope s__law_looked, [], []⟩
def d__law_seen : He.DefD := ⟨("_law_seen", none), "_law_seen", "_law_seen", defArgs s__law_seen, defBody s__law_seen, defScope s__law_seen, [], []⟩
def d__law_some_weights : He.DefD := ⟨("_law_some_weights", none), "_law_some_weights", "_law_some_weights", defArgs s__law_some_weights, defBody s__law_some_weights, defScope s__law_some_weights, [], []⟩
def d__law_window : He.DefD := ⟨("_law_window", none), "_law_window", "_law_window", defArgs s__law_window, defBody s__law_window, defScope s__law_window, [], []⟩
def d__law_vectors : He.DefD := ⟨("_law_vectors", none), "_law_vectors", "_law_vectors", defArgs s__law_vectors, defBody s__law_vectors, defScope s__law_vectors, [], []⟩
def d__law_net : He.DefD := ⟨("_law_net", none), "_law_net", "_law_net", defArgs s__law_net, defBody s__law_net, defScope s__law_net, [.int 1], []⟩
def d__law_vocabulary : He.DefD := ⟨("_law_vocabulary", none), "_law_vocabulary", "_law_vocabulary", defArgs s__law_vocabulary, defBody s__law_vocabulary, defScope s__law_vocabulary, [], []⟩
def d__law_words : He.DefD := ⟨("_law_words", none), "_law_words", "_law_words", defArgs s__law_words, defBody s__law_words, defScope s__law_words, [], []⟩
def d__law_model_text : He.DefD := ⟨("_law_model_text", none), "_law_model_text", "_law_model_text", defArgs s__law_model_text, defBody s__law_model_text, defScope s__law_model_text, [], []⟩
def d__law_vocabulary_text : He.DefD := ⟨("_law_vocabulary_text", none), "_law_vocabulary_text", "_law_vocabulary_text", defArgs s__law_vocabulary_text, defBody s__law_vocabulary_text, defScope s__law_vocabulary_text, [], []⟩
def d_law : He.DefD := ⟨("law", none), "law", "law", defArgs s_law, defBody s_law, defScope s_law, [], []⟩
def fn : List He.DefD := [d_is_integer, d_is_from, d_are_letters, d_is_pair_below, d_is_vocabulary_value, d_need_vocabulary, d_are_tokens_below, d_size_raw, d_pieces_of, d_are_weights, d_is_entry, d_is_window, d_is_vector, d_are_vectors, d_is_layer, d_is_net, d_is_model_value, d_need_model, d_are_model_tokens, d_clipped, d_scalar, d_times, d_plus, d_shares_of, d_layer_done, d_net_step, d_window_weights, d_step_raw, d_all_rows, d_weights_raw, d_words_of, d_vocabulary_lines, d_model_lines, d_integer_of, d_integers_of, d_numbers_behind, d_read_vocabulary_lines, d_entry_of, d_read_window_lines, d_taken_from, d_read_net_lines, d_read_model_lines, d_model_text, d_vocabulary_text, d_rows_of_text, d_read_model, d_read_vocabulary, d_need_tokens, d_model_weights, d__law_deck, d__law_draw, d__law_pick, d__law_dot, d__law_times, d__law_clipped, d__law_looked, d__law_seen, d__law_some_weights, d__law_window, d__law_vectors, d__law_net, d__law_vocabulary, d__law_words, d__law_model_text, d__law_vocabulary_text, d_law]
def fa : List He.Fa := [.glo "is_integer", .glo "is_from", .glo "are_letters", .glo "is_pair_below", .glo "is_vocabulary_value", .glo "need_vocabulary", .glo "are_tokens_below", .glo "size_raw", .glo "pieces_of", .glo "are_weights", .glo "is_entry", .glo "is_window", .glo "is_vector", .glo "are_vectors", .glo "is_layer", .glo "is_net", .glo "is_model_value", .glo "need_model", .glo "are_model_tokens", .glo "clipped", .glo "scalar", .glo "times", .glo "plus", .glo "shares_of", .glo "layer_done", .glo "net_step", .glo "window_weights", .glo "step_raw", .glo "all_rows", .glo "weights_raw", .glo "words_of", .glo "vocabulary_lines", .glo "model_lines", .glo "integer_of", .glo "integers_of", .glo "numbers_behind", .glo "read_vocabulary_lines", .glo "entry_of", .glo "read_window_lines", .glo "taken_from", .glo "read_net_lines", .glo "read_model_lines", .glo "model_text", .glo "vocabulary_text", .glo "rows_of_text", .glo "read_model", .glo "read_vocabulary", .glo "need_tokens", .glo "model_weights", .glo "_law_deck", .glo "_law_draw", .glo "_law_pick", .glo "_law_dot", .glo "_law_times", .glo "_law_clipped", .glo "_law_looked", .glo "_law_seen", .glo "_law_some_weights", .glo "_law_window", .glo "_law_vectors", .glo "_law_net", .glo "_law_vocabulary", .glo "_law_words", .glo "_law_model_text", .glo "_law_vocabulary_text", .glo "law", .free "Exception", .free "all", .free "bool", .free "enumerate", .free "int", .free "isinstance", .free "len", .free "list", .free "max", .free "min", .free "range", .free "repr", .free "set", .free "sorted", .free "str", .free "sum", .free "tuple", .free "zip", .str "SMALL" "abcdefghijklmnopqrstuvwxyz", .str "VOCABULARY" "vocabulary", .int "MOST_LETTERS" 6, .int "MOST_MERGES" 10, .str "WINDOW" "window", .str "NET" "net", .int "CLIP" 20, .int "STEEP" 6, .str "DIGITS" "0123456789", .glo "KINDS"]
def ex (K : PySem.W.Frag) : Bool := He.tupB K "KINDS" [.str "query", .str "key", .str "worth", .str "mix"]
abbrev R : PySem.W.OpenRow := PySem.W.OpenLaw.row PySem.Challenge.rw_draftward_k79_whole_texts_there_and_back
abbrev hk : PySem.W.Hook := He.hookX 4 fa fn [] [] ex
def ob (s : PySem.W.SharedT) : He.AlX := He.obsX 4 fa fn [] [] ex (HandSHeadRun.getT s)
theorem ob_eq (s : PySem.W.SharedT) : ob s = hk.obs s.abs := He.obsX_eq (HandSHeadRun.getT_eq s)
def names0 : List PySem.Str := [("DraftError" : PySem.Str), ("BadModel" : PySem.Str), ("BadVocabulary" : PySem.Str), ("BadTokens" : PySem.Str), ("BadLine" : PySem.Str), ("SMALL" : PySem.Str), ("VOCABULARY" : PySem.Str), ("MOST_LETTERS" : PySem.Str), ("MOST_MERGES" : PySem.Str), ("is_integer" : PySem.Str), ("is_from" : PySem.Str), ("are_letters" : PySem.Str), ("is_pair_below" : PySem.Str), ("is_vocabulary_value" : PySem.Str), ("need_vocabulary" : PySem.Str), ("are_tokens_below" : PySem.Str), ("size_raw" : PySem.Str), ("pieces_of" : PySem.Str), ("WINDOW" : PySem.Str), ("NET" : PySem.Str), ("CLIP" : PySem.Str), ("STEEP" : PySem.Str), ("are_weights" : PySem.Str), ("is_entry" : PySem.Str), ("is_window" : PySem.Str), ("is_vector" : PySem.Str), ("are_vectors" : PySem.Str), ("is_layer" : PySem.Str), ("is_net" : PySem.Str), ("is_model_value" : PySem.Str)]
def names1 : List PySem.Str := [("need_model" : PySem.Str), ("are_model_tokens" : PySem.Str), ("clipped" : PySem.Str), ("scalar" : PySem.Str), ("times" : PySem.Str), ("plus" : PySem.Str), ("shares_of" : PySem.Str), ("layer_done" : PySem.Str), ("net_step" : PySem.Str), ("window_weights" : PySem.Str), ("step_raw" : PySem.Str), ("all_rows" : PySem.Str), ("weights_raw" : PySem.Str), ("DIGITS" : PySem.Str), ("KINDS" : PySem.Str), ("words_of" : PySem.Str), ("vocabulary_lines" : PySem.Str), ("model_lines" : PySem.Str), ("integer_of" : PySem.Str), ("integers_of" : PySem.Str), ("numbers_behind" : PySem.Str), ("read_vocabulary_lines" : PySem.Str), ("entry_of" : PySem.Str), ("read_window_lines" : PySem.Str), ("taken_from" : PySem.Str), ("read_net_lines" : PySem.Str), ("read_model_lines" : PySem.Str), ("model_text" : PySem.Str), ("vocabulary_text" : PySem.Str), ("rows_of_text" : PySem.Str)]
def names2 : List PySem.Str := [("read_model" : PySem.Str), ("read_vocabulary" : PySem.Str), ("need_tokens" : PySem.Str), ("model_weights" : PySem.Str), ("_law_deck" : PySem.Str), ("_law_draw" : PySem.Str), ("_law_pick" : PySem.Str), ("_law_dot" : PySem.Str), ("_law_times" : PySem.Str), ("_law_clipped" : PySem.Str), ("_law_looked" : PySem.Str), ("_law_seen" : PySem.Str), ("_law_some_weights" : PySem.Str), ("_law_window" : PySem.Str), ("_law_vectors" : PySem.Str), ("_law_net" : PySem.Str), ("_law_vocabulary" : PySem.Str), ("_law_words" : PySem.Str), ("_law_model_text" : PySem.Str), ("_law_vocabulary_text" : PySem.Str)]
def names : List PySem.Str := names0 ++ names1 ++ names2
theorem run (w : World) : HandSHeadRun.RunEq R (PySem.W.view R.prog [87]) hk ob 40000 names w := by
  intro os
  kernel_rfl
end Hd
end
section
set_option Elab.async false
set_option linter.all false
set_option maxRecDepth 100000
set_option maxHeartbeats 0
namespace Wk
open PySem PySem.Spec PyProof.Rows L2 J

structure Cn (K : PySem.W.Frag) (mg : PySem.Str → Option Value) : Prop where
  c_SMALL : ∃ t, mg "SMALL" = some (.str "abcdefghijklmnopqrstuvwxyz" t)
  c_VOCABULARY : ∃ t, mg "VOCABULARY" = some (.str "vocabulary" t)
  c_MOST_LETTERS : ∃ t, mg "MOST_LETTERS" = some (.int 6 t)
  c_MOST_MERGES : ∃ t, mg "MOST_MERGES" = some (.int 10 t)
  c_WINDOW : ∃ t, mg "WINDOW" = some (.str "window" t)
  c_NET : ∃ t, mg "NET" = some (.str "net" t)
  c_CLIP : ∃ t, mg "CLIP" = some (.int 20 t)
  c_STEEP : ∃ t, mg "STEEP" = some (.int 6 t)
  c_DIGITS : ∃ t, mg "DIGITS" = some (.str "0123456789" t)
  c_KINDS : mg "KINDS" = some (.ref (He.ga K "KINDS"))
  t_KINDS : ∀ H : Hp, SqT K H (He.ga K "KINDS") (([("query" : PySem.Str), ("key" : PySem.Str), ("worth" : PySem.Str), ("mix" : PySem.Str)] : List PySem.Str).map V.str)
  n_Exception : mg "Exception" = none
  n_all : mg "all" = none
  n_bool : mg "bool" = none
  n_enumerate : mg "enumerate" = none
  n_int : mg "int" = none
  n_isinstance : mg "isinstance" = none
  n_len : mg "len" = none
  n_list : mg "list" = none
  n_max : mg "max" = none
  n_min : mg "min" = none
  n_range : mg "range" = none
  n_repr : mg "repr" = none
  n_set : mg "set" = none
  n_sorted : mg "sorted" = none
  n_str : mg "str" = none
  n_sum : mg "sum" = none
  n_tuple : mg "tuple" = none
  n_zip : mg "zip" = none
def b_is_integer : SM :=
    sRet (eAnd (eIsi .int (eVar 0)) (eNot (eIsi .bool (eVar 0))))
def m_is_integer : List D → M D := runDef 1 1 b_is_integer
abbrev N_is_integer : List PySem.Str := [("thing" : PySem.Str)]
theorem sc_is_integer : FnScope N_is_integer [("thing" : PySem.Str)] (defScope Hd.s_is_integer) := ⟨rfl, rfl, rfl, by decide +kernel, rfl, by decide +kernel, by decide +kernel⟩
def b_is_from : SM :=
    sRet (eAnd (eF m_is_integer (aCons (eVar 0) (aNil))) (e2 dGe (eVar 0) (eVar 1)))
def m_is_from : List D → M D := runDef 2 2 b_is_from
abbrev N_is_from : List PySem.Str := [("thing" : PySem.Str), ("least" : PySem.Str)]
theorem sc_is_from : FnScope N_is_from [("thing" : PySem.Str), ("least" : PySem.Str)] (defScope Hd.s_is_from) := ⟨rfl, rfl, rfl, by decide +kernel, rfl, by decide +kernel, by decide +kernel⟩
def b_are_letters : SM :=
    sSeq (sIf (tOr (tNot (tB (eIsi .str (eVar 0)))) (tNot (tB (eChain dLe dLe (eC (.int 1)) (eN fLen (aCons (eVar 0) (aNil))) (eC (.int 6)))))) (sRet (eC (.bl false))) (sNop))
    (sRet (eAnd (eN fAll (aCons (eL (fLc (iSeq (eVar 0)) [1] (.nm 1) (tT) (e2 dIn (eVar 1) (eC (.str "abcdefghijklmnopqrstuvwxyz"))))) (aNil))) (e2S dEq (e1 dLenSet (eVar 0)) (eN fLen (aCons (eVar 0) (aNil))))))
def m_are_letters : List D → M D := runDef 2 1 b_are_letters
abbrev N_are_letters : List PySem.Str := [("thing" : PySem.Str), ("sign" : PySem.Str)]
theorem sc_are_letters : FnScope N_are_letters [("thing" : PySem.Str)] (defScope Hd.s_are_letters) := ⟨rfl, rfl, rfl, by decide +kernel, rfl, by decide +kernel, by decide +kernel⟩
def b_is_pair_below : SM :=
    sSeq (sIf (tOr (tNot (tB (eIsi .tuple (eVar 0)))) (tB (e2S dNe (eN fLen (aCons (eVar 0) (aNil))) (eC (.int 2))))) (sRet (eC (.bl false))) (sNop))
    (sRet (eN fAll (aCons (eL (fLc (iSeq (eVar 0)) [2] (.nm 2) (tT) (eAnd (eF m_is_from (aCons (eVar 2) (aCons (eC (.int 1)) (aNil)))) (e2 dLt (eVar 2) (eVar 1))))) (aNil))))
def m_is_pair_below : List D → M D := runDef 3 2 b_is_pair_below
abbrev N_is_pair_below : List PySem.Str := [("thing" : PySem.Str), ("most" : PySem.Str), ("item" : PySem.Str)]
theorem sc_is_pair_below : FnScope N_is_pair_below [("thing" : PySem.Str), ("most" : PySem.Str)] (defScope Hd.s_is_pair_below) := ⟨rfl, rfl, rfl, by decide +kernel, rfl, by decide +kernel, by decide +kernel⟩
def b_size_raw : SM :=
    sRet (e2 dAdd (e2 dAdd (eC (.int 1)) (eN fLen (aCons (e2S dIx (eVar 0) (eC (.int 1))) (aNil)))) (eN fLen (aCons (e2S dIx (eVar 0) (eC (.int 2))) (aNil))))
def m_size_raw : List D → M D := runDef 1 1 b_size_raw
abbrev N_size_raw : List PySem.Str := [("vocabulary" : PySem.Str)]
theorem sc_size_raw : FnScope N_size_raw [("vocabulary" : PySem.Str)] (defScope Hd.s_size_raw) := ⟨rfl, rfl, rfl, by decide +kernel, rfl, by decide +kernel, by decide +kernel⟩
def b_pieces_of : SM :=
    sSeq (sOwn 1 (f2 fAdd (eL (aCons (eC (.str "")) (aNil))) (eN fList (aCons (e2S dIx (eVar 0) (eC (.int 1))) (aNil)))))
    (sSeq (sFor (iSeq (e2S dIx (eVar 0) (eC (.int 2)))) (.tp [.nm 2, .nm 3]) (sAppF 1 (e2 dAdd (e2S dIx (eVar 1) (eVar 2)) (e2S dIx (eVar 1) (eVar 3)))))
    (sRet (eVar 1)))
def m_pieces_of : List D → M D := runDef 4 1 b_pieces_of
abbrev N_pieces_of : List PySem.Str := [("vocabulary" : PySem.Str), ("found" : PySem.Str), ("i" : PySem.Str), ("j" : PySem.Str)]
theorem sc_pieces_of : FnScope N_pieces_of [("vocabulary" : PySem.Str)] (defScope Hd.s_pieces_of) := ⟨rfl, rfl, rfl, by decide +kernel, rfl, by decide +kernel, by decide +kernel⟩
def b_is_vocabulary_value : SM :=
    sSeq (sIf (tOr (tNot (tB (eIsi .tuple (eVar 0)))) (tOr (tB (e2S dNe (eN fLen (aCons (eVar 0) (aNil))) (eC (.int 3)))) (tOr (tNot (tB (eIsi .str (e2S dIx (eVar 0) (eC (.int 0)))))) (tB (e2S dNe (e2S dIx (eVar 0) (eC (.int 0))) (eC (.str "vocabulary"))))))) (sRet (eC (.bl false))) (sNop))
    (sSeq (sPar 1 2 (e2S dIx (eVar 0) (eC (.int 1))) (e2S dIx (eVar 0) (eC (.int 2))))
    (sSeq (sIf (tOr (tNot (tB (eF m_are_letters (aCons (eVar 1) (aNil))))) (tOr (tNot (tB (eIsi .tuple (eVar 2)))) (tB (e2 dGt (eN fLen (aCons (eVar 2) (aNil))) (eC (.int 10)))))) (sRet (eC (.bl false))) (sNop))
    (sSeq (sFor (iEnum (eVar 2)) (.tp [.nm 3, .nm 4]) (sIf (tNot (tB (eF m_is_pair_below (aCons (eVar 4) (aCons (e2 dAdd (e2 dAdd (eC (.int 1)) (eN fLen (aCons (eVar 1) (aNil)))) (eVar 3)) (aNil)))))) (sRet (eC (.bl false))) (sNop)))
    (sRet (e2S dEq (e1 dLenSet (eF m_pieces_of (aCons (eVar 0) (aNil)))) (eF m_size_raw (aCons (eVar 0) (aNil))))))))
def m_is_vocabulary_value : List D → M D := runDef 5 1 b_is_vocabulary_value
abbrev N_is_vocabulary_value : List PySem.Str := [("thing" : PySem.Str), ("letters" : PySem.Str), ("merges" : PySem.Str), ("at" : PySem.Str), ("merge" : PySem.Str)]
theorem sc_is_vocabulary_value : FnScope N_is_vocabulary_value [("thing" : PySem.Str)] (defScope Hd.s_is_vocabulary_value) := ⟨rfl, rfl, rfl, by decide +kernel, rfl, by decide +kernel, by decide +kernel⟩
def b_need_vocabulary : SM :=
    sIf (tNot (tB (eF m_is_vocabulary_value (aCons (eVar 0) (aNil))))) (sNever) (sNop)
def m_need_vocabulary : List D → M D := runDef 1 1 b_need_vocabulary
abbrev N_need_vocabulary : List PySem.Str := [("thing" : PySem.Str)]
theorem sc_need_vocabulary : FnScope N_need_vocabulary [("thing" : PySem.Str)] (defScope Hd.s_need_vocabulary) := ⟨rfl, rfl, rfl, by decide +kernel, rfl, by decide +kernel, by decide +kernel⟩
def b_are_tokens_below : SM :=
    sRet (eAnd (eIsi .tuple (eVar 0)) (eN fAll (aCons (eL (fLc (iSeq (eVar 0)) [2] (.nm 2) (tT) (eAnd (eF m_is_from (aCons (eVar 2) (aCons (eC (.int 0)) (aNil)))) (e2 dLt (eVar 2) (eVar 1))))) (aNil))))
def m_are_tokens_below : List D → M D := runDef 3 2 b_are_tokens_below
abbrev N_are_tokens_below : List PySem.Str := [("thing" : PySem.Str), ("many" : PySem.Str), ("item" : PySem.Str)]
theorem sc_are_tokens_below : FnScope N_are_tokens_below [("thing" : PySem.Str), ("many" : PySem.Str)] (defScope Hd.s_are_tokens_below) := ⟨rfl, rfl, rfl, by decide +kernel, rfl, by decide +kernel, by decide +kernel⟩
def b_are_weights : SM :=
    sSeq (sIf (tOr (tNot (tB (eIsi .tuple (eVar 0)))) (tOr (tB (e2S dNe (eN fLen (aCons (eVar 0) (aNil))) (eVar 1))) (tNot (tB (eN fAll (aCons (eL (fLc (iSeq (eVar 0)) [2] (.nm 2) (tT) (eF m_is_from (aCons (eVar 2) (aCons (eC (.int 0)) (aNil)))))) (aNil))))))) (sRet (eC (.bl false))) (sNop))
    (sRet (e2 dGe (eN fSum (aCons (eVar 0) (aNil))) (eC (.int 1))))
def m_are_weights : List D → M D := runDef 3 2 b_are_weights
abbrev N_are_weights : List PySem.Str := [("thing" : PySem.Str), ("many" : PySem.Str), ("item" : PySem.Str)]
theorem sc_are_weights : FnScope N_are_weights [("thing" : PySem.Str), ("many" : PySem.Str)] (defScope Hd.s_are_weights) := ⟨rfl, rfl, rfl, by decide +kernel, rfl, by decide +kernel, by decide +kernel⟩
def b_is_entry : SM :=
    sSeq (sIf (tOr (tNot (tB (eIsi .tuple (eVar 0)))) (tOr (tB (e2S dNe (eN fLen (aCons (eVar 0) (aNil))) (eC (.int 2)))) (tNot (tB (eF m_are_tokens_below (aCons (e2S dIx (eVar 0) (eC (.int 0))) (aCons (eVar 1) (aNil)))))))) (sRet (eC (.bl false))) (sNop))
    (sRet (eAnd (e2 dLe (eN fLen (aCons (e2S dIx (eVar 0) (eC (.int 0))) (aNil))) (eVar 2)) (eF m_are_weights (aCons (e2S dIx (eVar 0) (eC (.int 1))) (aCons (eVar 1) (aNil))))))
def m_is_entry : List D → M D := runDef 3 3 b_is_entry
abbrev N_is_entry : List PySem.Str := [("thing" : PySem.Str), ("many" : PySem.Str), ("k" : PySem.Str)]
theorem sc_is_entry : FnScope N_is_entry [("thing" : PySem.Str), ("many" : PySem.Str), ("k" : PySem.Str)] (defScope Hd.s_is_entry) := ⟨rfl, rfl, rfl, by decide +kernel, rfl, by decide +kernel, by decide +kernel⟩
def b_is_window : SM :=
    sSeq (sIf (tOr (tB (e2S dNe (eN fLen (aCons (eVar 0) (aNil))) (eC (.int 5)))) (tOr (tNot (tB (eF m_is_from (aCons (e2S dIx (eVar 0) (eC (.int 1))) (aCons (eC (.int 2)) (aNil)))))) (tOr (tNot (tB (eF m_is_from (aCons (e2S dIx (eVar 0) (eC (.int 2))) (aCons (eC (.int 0)) (aNil)))))) (tNot (tB (eIsi .tuple (e2S dIx (eVar 0) (eC (.int 3))))))))) (sRet (eC (.bl false))) (sNop))
    (sSeq (sIf (tOr (tNot (tB (eF m_are_weights (aCons (e2S dIx (eVar 0) (eC (.int 4))) (aCons (e2S dIx (eVar 0) (eC (.int 1))) (aNil)))))) (tNot (tB (eN fAll (aCons (eL (fLc (iSeq (e2S dIx (eVar 0) (eC (.int 3)))) [1] (.nm 1) (tT) (eF m_is_entry (aCons (eVar 1) (aCons (e2S dIx (eVar 0) (eC (.int 1))) (aCons (e2S dIx (eVar 0) (eC (.int 2))) (aNil))))))) (aNil)))))) (sRet (eC (.bl false))) (sNop))
    (sRet (eN fAll (aCons (eL (fLc (iZip (e2S dIx (eVar 0) (eC (.int 3))) (e3 dSlice (e2S dIx (eVar 0) (eC (.int 3))) (oSome (eC (.int 1))) (oNone))) [2, 3] (.tp [.nm 2, .nm 3]) (tT) (e2 dLt (e2S dIx (eVar 2) (eC (.int 0))) (e2S dIx (eVar 3) (eC (.int 0)))))) (aNil)))))
def m_is_window : List D → M D := runDef 4 1 b_is_window
abbrev N_is_window : List PySem.Str := [("thing" : PySem.Str), ("entry" : PySem.Str), ("one" : PySem.Str), ("other" : PySem.Str)]
theorem sc_is_window : FnScope N_is_window [("thing" : PySem.Str)] (defScope Hd.s_is_window) := ⟨rfl, rfl, rfl, by decide +kernel, rfl, by decide +kernel, by decide +kernel⟩
def b_is_vector : SM :=
    sRet (eAnd (eIsi .tuple (eVar 0)) (eAnd (e2S dEq (eN fLen (aCons (eVar 0) (aNil))) (eVar 1)) (eN fAll (aCons (eL (fLc (iSeq (eVar 0)) [2] (.nm 2) (tT) (eF m_is_integer (aCons (eVar 2) (aNil))))) (aNil)))))
def m_is_vector : List D → M D := runDef 3 2 b_is_vector
abbrev N_is_vector : List PySem.Str := [("thing" : PySem.Str), ("d" : PySem.Str), ("item" : PySem.Str)]
theorem sc_is_vector : FnScope N_is_vector [("thing" : PySem.Str), ("d" : PySem.Str)] (defScope Hd.s_is_vector) := ⟨rfl, rfl, rfl, by decide +kernel, rfl, by decide +kernel, by decide +kernel⟩
def b_are_vectors : SM :=
    sRet (eAnd (eIsi .tuple (eVar 0)) (eN fAll (aCons (eL (fLc (iSeq (eVar 0)) [2] (.nm 2) (tT) (eF m_is_vector (aCons (eVar 2) (aCons (eVar 1) (aNil)))))) (aNil))))
def m_are_vectors : List D → M D := runDef 3 2 b_are_vectors
abbrev N_are_vectors : List PySem.Str := [("thing" : PySem.Str), ("d" : PySem.Str), ("item" : PySem.Str)]
theorem sc_are_vectors : FnScope N_are_vectors [("thing" : PySem.Str), ("d" : PySem.Str)] (defScope Hd.s_are_vectors) := ⟨rfl, rfl, rfl, by decide +kernel, rfl, by decide +kernel, by decide +kernel⟩
def b_is_layer : SM :=
    sSeq (sIf (tOr (tNot (tB (eIsi .tuple (eVar 0)))) (tB (e2S dNe (eN fLen (aCons (eVar 0) (aNil))) (eC (.int 4))))) (sRet (eC (.bl false))) (sNop))
    (sRet (eN fAll (aCons (eL (fLc (iSeq (eVar 0)) [2] (.nm 2) (tT) (eAnd (eF m_are_vectors (aCons (eVar 2) (aCons (eVar 1) (aNil)))) (e2S dEq (eN fLen (aCons (eVar 2) (aNil))) (eVar 1))))) (aNil))))
def m_is_layer : List D → M D := runDef 3 2 b_is_layer
abbrev N_is_layer : List PySem.Str := [("thing" : PySem.Str), ("d" : PySem.Str), ("matrix" : PySem.Str)]
theorem sc_is_layer : FnScope N_is_layer [("thing" : PySem.Str), ("d" : PySem.Str)] (defScope Hd.s_is_layer) := ⟨rfl, rfl, rfl, by decide +kernel, rfl, by decide +kernel, by decide +kernel⟩
def b_is_net : SM :=
    sSeq (sIf (tOr (tB (e2S dNe (eN fLen (aCons (eVar 0) (aNil))) (eC (.int 7)))) (tOr (tNot (tB (eF m_is_from (aCons (e2S dIx (eVar 0) (eC (.int 1))) (aCons (eC (.int 2)) (aNil)))))) (tNot (tB (eF m_is_from (aCons (e2S dIx (eVar 0) (eC (.int 2))) (aCons (eC (.int 1)) (aNil)))))))) (sRet (eC (.bl false))) (sNop))
    (sSeq (sAsg (.tp [.nm 1, .nm 2]) (eTup (aCons (e2S dIx (eVar 0) (eC (.int 1))) (aCons (e2S dIx (eVar 0) (eC (.int 2))) (aNil)))))
    (sSeq (sIf (tOr (tNot (tB (eN fAll (aCons (eL (fLc (iSeq (eTup (aCons (eC (.int 3)) (aCons (eC (.int 4)) (aCons (eC (.int 6)) (aNil)))))) [3] (.nm 3) (tT) (eF m_are_vectors (aCons (e2S dIx (eVar 0) (eVar 3)) (aCons (eVar 2) (aNil)))))) (aNil))))) (tB (e2S dEq (e2S dIx (eVar 0) (eC (.int 4))) (eTup (aNil))))) (sRet (eC (.bl false))) (sNop))
    (sSeq (sIf (tOr (tB (e2S dNe (eN fLen (aCons (e2S dIx (eVar 0) (eC (.int 3))) (aNil))) (eVar 1))) (tOr (tB (e2S dNe (eN fLen (aCons (e2S dIx (eVar 0) (eC (.int 6))) (aNil))) (eVar 1))) (tNot (tB (eIsi .tuple (e2S dIx (eVar 0) (eC (.int 5)))))))) (sRet (eC (.bl false))) (sNop))
    (sRet (eN fAll (aCons (eL (fLc (iSeq (e2S dIx (eVar 0) (eC (.int 5)))) [4] (.nm 4) (tT) (eF m_is_layer (aCons (eVar 4) (aCons (eVar 2) (aNil)))))) (aNil)))))))
def m_is_net : List D → M D := runDef 5 1 b_is_net
abbrev N_is_net : List PySem.Str := [("thing" : PySem.Str), ("many" : PySem.Str), ("d" : PySem.Str), ("at" : PySem.Str), ("layer" : PySem.Str)]
theorem sc_is_net : FnScope N_is_net [("thing" : PySem.Str)] (defScope Hd.s_is_net) := ⟨rfl, rfl, rfl, by decide +kernel, rfl, by decide +kernel, by decide +kernel⟩
def b_is_model_value : SM :=
    sSeq (sIf (tOr (tNot (tB (eIsi .tuple (eVar 0)))) (tOr (tB (e2S dEq (eVar 0) (eTup (aNil)))) (tNot (tB (eIsi .str (e2S dIx (eVar 0) (eC (.int 0)))))))) (sRet (eC (.bl false))) (sNop))
    (sRet (eIf (tB (e2S dEq (e2S dIx (eVar 0) (eC (.int 0))) (eC (.str "window")))) (eF m_is_window (aCons (eVar 0) (aNil))) (eAnd (e2S dEq (e2S dIx (eVar 0) (eC (.int 0))) (eC (.str "net"))) (eF m_is_net (aCons (eVar 0) (aNil))))))
def m_is_model_value : List D → M D := runDef 1 1 b_is_model_value
abbrev N_is_model_value : List PySem.Str := [("thing" : PySem.Str)]
theorem sc_is_model_value : FnScope N_is_model_value [("thing" : PySem.Str)] (defScope Hd.s_is_model_value) := ⟨rfl, rfl, rfl, by decide +kernel, rfl, by decide +kernel, by decide +kernel⟩
def b_need_model : SM :=
    sIf (tNot (tB (eF m_is_model_value (aCons (eVar 0) (aNil))))) (sNever) (sNop)
def m_need_model : List D → M D := runDef 1 1 b_need_model
abbrev N_need_model : List PySem.Str := [("thing" : PySem.Str)]
theorem sc_need_model : FnScope N_need_model [("thing" : PySem.Str)] (defScope Hd.s_need_model) := ⟨rfl, rfl, rfl, by decide +kernel, rfl, by decide +kernel, by decide +kernel⟩
def b_are_model_tokens : SM :=
    sRet (eAnd (eF m_are_tokens_below (aCons (eVar 1) (aCons (e2S dIx (eVar 0) (eC (.int 1))) (aNil)))) (e2S dNe (eVar 1) (eTup (aNil))))
def m_are_model_tokens : List D → M D := runDef 2 2 b_are_model_tokens
abbrev N_are_model_tokens : List PySem.Str := [("model" : PySem.Str), ("thing" : PySem.Str)]
theorem sc_are_model_tokens : FnScope N_are_model_tokens [("model" : PySem.Str), ("thing" : PySem.Str)] (defScope Hd.s_are_model_tokens) := ⟨rfl, rfl, rfl, by decide +kernel, rfl, by decide +kernel, by decide +kernel⟩
def b_clipped : SM :=
    sRet (eN fTuple (aCons (eL (fLc (iSeq (eVar 0)) [1] (.nm 1) (tT) (eN fMax (aCons (e1 dNeg (eC (.int 20))) (aCons (eN fMin (aCons (eC (.int 20)) (aCons (eVar 1) (aNil)))) (aNil)))))) (aNil)))
def m_clipped : List D → M D := runDef 2 1 b_clipped
abbrev N_clipped : List PySem.Str := [("vector" : PySem.Str), ("item" : PySem.Str)]
theorem sc_clipped : FnScope N_clipped [("vector" : PySem.Str)] (defScope Hd.s_clipped) := ⟨rfl, rfl, rfl, by decide +kernel, rfl, by decide +kernel, by decide +kernel⟩
def b_scalar : SM :=
    sRet (eN fSum (aCons (eL (fLc (iZip (eVar 0) (eVar 1)) [2, 3] (.tp [.nm 2, .nm 3]) (tT) (e2 dMul (eVar 2) (eVar 3)))) (aNil)))
def m_scalar : List D → M D := runDef 4 2 b_scalar
abbrev N_scalar : List PySem.Str := [("one" : PySem.Str), ("other" : PySem.Str), ("x" : PySem.Str), ("y" : PySem.Str)]
theorem sc_scalar : FnScope N_scalar [("one" : PySem.Str), ("other" : PySem.Str)] (defScope Hd.s_scalar) := ⟨rfl, rfl, rfl, by decide +kernel, rfl, by decide +kernel, by decide +kernel⟩
def b_times : SM :=
    sRet (eN fTuple (aCons (eL (fLc (iSeq (eVar 0)) [2] (.nm 2) (tT) (eF m_scalar (aCons (eVar 2) (aCons (eVar 1) (aNil)))))) (aNil)))
def m_times : List D → M D := runDef 3 2 b_times
abbrev N_times : List PySem.Str := [("matrix" : PySem.Str), ("vector" : PySem.Str), ("row" : PySem.Str)]
theorem sc_times : FnScope N_times [("matrix" : PySem.Str), ("vector" : PySem.Str)] (defScope Hd.s_times) := ⟨rfl, rfl, rfl, by decide +kernel, rfl, by decide +kernel, by decide +kernel⟩
def b_plus : SM :=
    sRet (eF m_clipped (aCons (eL (fLc (iZip (eVar 0) (eVar 1)) [2, 3] (.tp [.nm 2, .nm 3]) (tT) (e2 dAdd (eVar 2) (eVar 3)))) (aNil)))
def m_plus : List D → M D := runDef 4 2 b_plus
abbrev N_plus : List PySem.Str := [("one" : PySem.Str), ("other" : PySem.Str), ("x" : PySem.Str), ("y" : PySem.Str)]
theorem sc_plus : FnScope N_plus [("one" : PySem.Str), ("other" : PySem.Str)] (defScope Hd.s_plus) := ⟨rfl, rfl, rfl, by decide +kernel, rfl, by decide +kernel, by decide +kernel⟩
def b_shares_of : SM :=
    sSeq (sSet 1 (eN fMax (aCons (eVar 0) (aNil))))
    (sRet (eL (fLc (iSeq (eVar 0)) [2] (.nm 2) (tT) (e2 dShl (eC (.int 1)) (eN fMax (aCons (eC (.int 0)) (aCons (e2 dSub (eC (.int 6)) (e2 dSub (eVar 1) (eVar 2))) (aNil))))))))
def m_shares_of : List D → M D := runDef 3 1 b_shares_of
abbrev N_shares_of : List PySem.Str := [("scores" : PySem.Str), ("most" : PySem.Str), ("score" : PySem.Str)]
theorem sc_shares_of : FnScope N_shares_of [("scores" : PySem.Str)] (defScope Hd.s_shares_of) := ⟨rfl, rfl, rfl, by decide +kernel, rfl, by decide +kernel, by decide +kernel⟩
def b_layer_done : SM :=
    sSeq (sAsg (.tp [.nm 3, .nm 4, .nm 5, .nm 6]) (eVar 0))
    (sSeq (sSet 7 (eTup (aCons (eF m_times (aCons (eVar 4) (aCons (eVar 1) (aNil)))) (aCons (eF m_times (aCons (eVar 5) (aCons (eVar 1) (aNil)))) (aNil)))))
    (sSeq (sSet 8 (e2 dAdd (eVar 2) (eL (aCons (eVar 7) (aNil)))))
    (sSeq (sSet 9 (eF m_times (aCons (eVar 3) (aCons (eVar 1) (aNil)))))
    (sSeq (sSet 10 (eF m_shares_of (aCons (eL (fLc (iSeq (eVar 8)) [11] (.nm 11) (tT) (eF m_scalar (aCons (eVar 9) (aCons (e2S dIx (eVar 11) (eC (.int 0))) (aNil)))))) (aNil))))
    (sSeq (sSet 12 (eN fSum (aCons (eVar 10) (aNil))))
    (sSeq (sOwn 13 (aNil))
    (sSeq (sFor (iRange (aCons (eN fLen (aCons (eVar 1) (aNil))) (aNil))) (.nm 14) (sApp 13 (e2 dDiv (eN fSum (aCons (eL (fLc (iZip (eVar 10) (eVar 8)) [15, 11] (.tp [.nm 15, .nm 11]) (tT) (e2 dMul (eVar 15) (e2S dIx (e2S dIx (eVar 11) (eC (.int 1))) (eVar 14))))) (aNil))) (eVar 12))))
    (sRet (eTup (aCons (eVar 7) (aCons (eF m_plus (aCons (eVar 1) (aCons (eF m_times (aCons (eVar 6) (aCons (eVar 13) (aNil)))) (aNil)))) (aNil))))))))))))
def m_layer_done : List D → M D := runDef 16 3 b_layer_done
abbrev N_layer_done : List PySem.Str := [("layer" : PySem.Str), ("state" : PySem.Str), ("kept" : PySem.Str), ("query" : PySem.Str), ("key" : PySem.Str), ("value" : PySem.Str), ("mix" : PySem.Str), ("own" : PySem.Str), ("pairs" : PySem.Str), ("asked" : PySem.Str), ("shares" : PySem.Str), ("pair" : PySem.Str), ("total" : PySem.Str), ("answer" : PySem.Str), ("at" : PySem.Str), ("share" : PySem.Str)]
theorem sc_layer_done : FnScope N_layer_done [("layer" : PySem.Str), ("state" : PySem.Str), ("kept" : PySem.Str)] (defScope Hd.s_layer_done) := ⟨rfl, rfl, rfl, by decide +kernel, rfl, by decide +kernel, by decide +kernel⟩
def b_net_step : SM :=
    sSeq (sAsg (.tp [.nm 3, .nm 4, .nm 5, .nm 6, .nm 7, .nm 8, .nm 9]) (eVar 0))
    (sSeq (sParVO 10 11 (eF m_plus (aCons (e2S dIx (eVar 6) (eVar 2)) (aCons (e2S dIx (eVar 7) (e2 dMod (eN fLen (aCons (eVar 1) (aNil))) (eN fLen (aCons (eVar 7) (aNil))))) (aNil)))) (aNil))
    (sSeq (sFor (iEnum (eVar 8)) (.tp [.nm 12, .nm 13]) (sSeq (sAsg (.tp [.nm 14, .nm 10]) (eF m_layer_done (aCons (eVar 13) (aCons (eVar 10) (aCons (eL (fLc (iSeq (eVar 1)) [15] (.nm 15) (tT) (e2S dIx (eVar 15) (eVar 12)))) (aNil))))))
    (sApp 11 (eVar 14))))
    (sRet (eTup (aCons (eN fTuple (aCons (eVar 11) (aNil))) (aCons (eN fTuple (aCons (eF m_shares_of (aCons (eL (fLc (iSeq (eVar 9)) [16] (.nm 16) (tT) (eF m_scalar (aCons (eVar 16) (aCons (eVar 10) (aNil)))))) (aNil))) (aNil))) (aNil)))))))
def m_net_step : List D → M D := runDef 17 3 b_net_step
abbrev N_net_step : List PySem.Str := [("model" : PySem.Str), ("rows" : PySem.Str), ("token" : PySem.Str), ("name" : PySem.Str), ("many" : PySem.Str), ("d" : PySem.Str), ("embeds" : PySem.Str), ("places" : PySem.Str), ("layers" : PySem.Str), ("outs" : PySem.Str), ("state" : PySem.Str), ("found" : PySem.Str), ("at" : PySem.Str), ("layer" : PySem.Str), ("own" : PySem.Str), ("row" : PySem.Str), ("out" : PySem.Str)]
theorem sc_net_step : FnScope N_net_step [("model" : PySem.Str), ("rows" : PySem.Str), ("token" : PySem.Str)] (defScope Hd.s_net_step) := ⟨rfl, rfl, rfl, by decide +kernel, rfl, by decide +kernel, by decide +kernel⟩
def b_window_weights : SM :=
    sSeq (sSet 2 (e2S dIx (eVar 0) (eC (.int 2))))
    (sSeq (sSet 3 (eN fTuple (aCons (e3 dSlice (eVar 1) (oSome (eN fMax (aCons (eC (.int 0)) (aCons (e2 dSub (eN fLen (aCons (eVar 1) (aNil))) (eVar 2)) (aNil))))) (oNone)) (aNil))))
    (sSeq (sFor (iSeq (e2S dIx (eVar 0) (eC (.int 3)))) (.nm 4) (sIf (tB (e2S dEq (e2S dIx (eVar 4) (eC (.int 0))) (eVar 3))) (sRet (e2S dIx (eVar 4) (eC (.int 1)))) (sNop)))
    (sRet (e2S dIx (eVar 0) (eC (.int 4))))))
def m_window_weights : List D → M D := runDef 5 2 b_window_weights
abbrev N_window_weights : List PySem.Str := [("model" : PySem.Str), ("tokens" : PySem.Str), ("k" : PySem.Str), ("last" : PySem.Str), ("entry" : PySem.Str)]
theorem sc_window_weights : FnScope N_window_weights [("model" : PySem.Str), ("tokens" : PySem.Str)] (defScope Hd.s_window_weights) := ⟨rfl, rfl, rfl, by decide +kernel, rfl, by decide +kernel, by decide +kernel⟩
def b_step_raw : SM :=
    sSeq (sIf (tB (e2S dEq (e2S dIx (eVar 0) (eC (.int 0))) (eC (.str "window")))) (sRet (eTup (aCons (eTup (aCons (eVar 2) (aNil))) (aCons (eF m_window_weights (aCons (eVar 0) (aCons (e2 dAdd (eN fTuple (aCons (eL (fLc (iSeq (eVar 1)) [3] (.nm 3) (tT) (e2S dIx (eVar 3) (eC (.int 0))))) (aNil))) (eTup (aCons (eVar 2) (aNil)))) (aNil)))) (aNil))))) (sNop))
    (sRet (eF m_net_step (aCons (eVar 0) (aCons (eVar 1) (aCons (eVar 2) (aNil))))))
def m_step_raw : List D → M D := runDef 4 3 b_step_raw
abbrev N_step_raw : List PySem.Str := [("model" : PySem.Str), ("rows" : PySem.Str), ("token" : PySem.Str), ("row" : PySem.Str)]
theorem sc_step_raw : FnScope N_step_raw [("model" : PySem.Str), ("rows" : PySem.Str), ("token" : PySem.Str)] (defScope Hd.s_step_raw) := ⟨rfl, rfl, rfl, by decide +kernel, rfl, by decide +kernel, by decide +kernel⟩
def b_all_rows : SM :=
    sSeq (sOwn 2 (aNil))
    (sSeq (sFor (iSeq (eVar 1)) (.nm 3) (sAppF 2 (e2S dIx (eF m_step_raw (aCons (eVar 0) (aCons (eVar 2) (aCons (eVar 3) (aNil))))) (eC (.int 0)))))
    (sRet (eVar 2)))
def m_all_rows : List D → M D := runDef 4 2 b_all_rows
abbrev N_all_rows : List PySem.Str := [("model" : PySem.Str), ("tokens" : PySem.Str), ("found" : PySem.Str), ("token" : PySem.Str)]
theorem sc_all_rows : FnScope N_all_rows [("model" : PySem.Str), ("tokens" : PySem.Str)] (defScope Hd.s_all_rows) := ⟨rfl, rfl, rfl, by decide +kernel, rfl, by decide +kernel, by decide +kernel⟩
def b_weights_raw : SM :=
    sSeq (sIf (tB (e2S dEq (e2S dIx (eVar 0) (eC (.int 0))) (eC (.str "window")))) (sRet (eF m_window_weights (aCons (eVar 0) (aCons (eVar 1) (aNil))))) (sNop))
    (sRet (e2S dIx (eF m_step_raw (aCons (eVar 0) (aCons (eF m_all_rows (aCons (eVar 0) (aCons (e3 dSlice (eVar 1) (oNone) (oSome (e1 dNeg (eC (.int 1))))) (aNil)))) (aCons (e2S dIx (eVar 1) (e1 dNeg (eC (.int 1)))) (aNil))))) (eC (.int 1))))
def m_weights_raw : List D → M D := runDef 2 2 b_weights_raw
abbrev N_weights_raw : List PySem.Str := [("model" : PySem.Str), ("tokens" : PySem.Str)]
theorem sc_weights_raw : FnScope N_weights_raw [("model" : PySem.Str), ("tokens" : PySem.Str)] (defScope Hd.s_weights_raw) := ⟨rfl, rfl, rfl, by decide +kernel, rfl, by decide +kernel, by decide +kernel⟩
def b_words_of : SM :=
    sRet (e2 dJoin (eC (.str " ")) (e2 dAdd (eL (aCons (eVar 0) (aNil))) (eL (fLc (iSeq (eVar 1)) [2] (.nm 2) (tT) (eN fStr (aCons (eVar 2) (aNil)))))))
def m_words_of : List D → M D := runDef 3 2 b_words_of
abbrev N_words_of : List PySem.Str := [("word" : PySem.Str), ("numbers" : PySem.Str), ("number" : PySem.Str)]
theorem sc_words_of : FnScope N_words_of [("word" : PySem.Str), ("numbers" : PySem.Str)] (defScope Hd.s_words_of) := ⟨rfl, rfl, rfl, by decide +kernel, rfl, by decide +kernel, by decide +kernel⟩
def b_vocabulary_lines : SM :=
    sRet (e2 dAdd (eL (aCons (e2 dAdd (eC (.str "letters ")) (e2S dIx (eVar 0) (eC (.int 1)))) (aNil))) (eL (fLc (iSeq (e2S dIx (eVar 0) (eC (.int 2)))) [1] (.nm 1) (tT) (eF m_words_of (aCons (eC (.str "merge")) (aCons (eVar 1) (aNil)))))))
def m_vocabulary_lines : List D → M D := runDef 2 1 b_vocabulary_lines
abbrev N_vocabulary_lines : List PySem.Str := [("vocabulary" : PySem.Str), ("merge" : PySem.Str)]
theorem sc_vocabulary_lines : FnScope N_vocabulary_lines [("vocabulary" : PySem.Str)] (defScope Hd.s_vocabulary_lines) := ⟨rfl, rfl, rfl, by decide +kernel, rfl, by decide +kernel, by decide +kernel⟩
def b_model_lines : SM :=
    sSeq (sIf (tB (e2S dEq (e2S dIx (eVar 0) (eC (.int 0))) (eC (.str "window")))) (sSeq (sAsg (.tp [.nm 1, .nm 2, .nm 3, .nm 4, .nm 5]) (eVar 0))
    (sSeq (sOwn 6 (aCons (eF m_words_of (aCons (eC (.str "window")) (aCons (eTup (aCons (eVar 2) (aCons (eVar 3) (aNil)))) (aNil)))) (aCons (eF m_words_of (aCons (eC (.str "default")) (aCons (eVar 5) (aNil)))) (aNil))))
    (sRet (e2 dAdd (eVar 6) (eL (fLc (iSeq (eVar 4)) [7, 8] (.tp [.nm 7, .nm 8]) (tT) (eF m_words_of (aCons (e2 dAdd (eF m_words_of (aCons (eC (.str "after")) (aCons (eVar 7) (aNil)))) (eC (.str ":"))) (aCons (eVar 8) (aNil)))))))))) (sNop))
    (sSeq (sAsg (.tp [.nm 1, .nm 2, .nm 9, .nm 10, .nm 11, .nm 12, .nm 13]) (eVar 0))
    (sSeq (sOwn 6 (aCons (eF m_words_of (aCons (eC (.str "net")) (aCons (eTup (aCons (eVar 2) (aCons (eVar 9) (aNil)))) (aNil)))) (aNil)))
    (sSeq (sExt 6 (e2 dAdd (eL (fLc (iSeq (eVar 10)) [14] (.nm 14) (tT) (eF m_words_of (aCons (eC (.str "embed")) (aCons (eVar 14) (aNil)))))) (eL (fLc (iSeq (eVar 11)) [14] (.nm 14) (tT) (eF m_words_of (aCons (eC (.str "place")) (aCons (eVar 14) (aNil))))))))
    (sSeq (sFor (iSeq (eVar 12)) (.nm 15) (sFor (iZip (eC (.ct (([("query" : PySem.Str), ("key" : PySem.Str), ("worth" : PySem.Str), ("mix" : PySem.Str)] : List PySem.Str).map D.str))) (eVar 15)) (.tp [.nm 16, .nm 17]) (sExt 6 (eL (fLc (iSeq (eVar 17)) [14] (.nm 14) (tT) (eF m_words_of (aCons (eVar 16) (aCons (eVar 14) (aNil)))))))))
    (sRet (e2 dAdd (eVar 6) (eL (fLc (iSeq (eVar 13)) [14] (.nm 14) (tT) (eF m_words_of (aCons (eC (.str "out")) (aCons (eVar 14) (aNil))))))))))))
def m_model_lines : List D → M D := runDef 18 1 b_model_lines
abbrev N_model_lines : List PySem.Str := [("model" : PySem.Str), ("name" : PySem.Str), ("many" : PySem.Str), ("k" : PySem.Str), ("entries" : PySem.Str), ("default" : PySem.Str), ("found" : PySem.Str), ("last" : PySem.Str), ("weights" : PySem.Str), ("d" : PySem.Str), ("embeds" : PySem.Str), ("places" : PySem.Str), ("layers" : PySem.Str), ("outs" : PySem.Str), ("vector" : PySem.Str), ("layer" : PySem.Str), ("word" : PySem.Str), ("matrix" : PySem.Str)]
theorem sc_model_lines : FnScope N_model_lines [("model" : PySem.Str)] (defScope Hd.s_model_lines) := ⟨rfl, rfl, rfl, by decide +kernel, rfl, by decide +kernel, by decide +kernel⟩
def b_integer_of : SM :=
    sSeq (sSet 1 (eIf (tB (e2S dEq (e3 dSlice (eVar 0) (oNone) (oSome (eC (.int 1)))) (eC (.str "-")))) (e3 dSlice (eVar 0) (oSome (eC (.int 1))) (oNone)) (eVar 0)))
    (sSeq (sIf (tOr (tB (e2S dEq (eVar 1) (eC (.str "")))) (tOr (tNot (tB (eN fAll (aCons (eL (fLc (iSeq (eVar 1)) [2] (.nm 2) (tT) (e2 dIn (eVar 2) (eC (.str "0123456789"))))) (aNil))))) (tAnd (tB (e2S dEq (e2S dIx (eVar 1) (eC (.int 0))) (eC (.str "0")))) (tB (e2S dNe (eVar 0) (eC (.str "0"))))))) (sRet (eC .non)) (sNop))
    (sRet (eN fInt (aCons (eVar 0) (aNil)))))
def m_integer_of : List D → M D := runDef 3 1 b_integer_of
abbrev N_integer_of : List PySem.Str := [("word" : PySem.Str), ("digits" : PySem.Str), ("sign" : PySem.Str)]
theorem sc_integer_of : FnScope N_integer_of [("word" : PySem.Str)] (defScope Hd.s_integer_of) := ⟨rfl, rfl, rfl, by decide +kernel, rfl, by decide +kernel, by decide +kernel⟩
def b_integers_of : SM :=
    sSeq (sSet 1 (eL (fLc (iSeq (eVar 0)) [2] (.nm 2) (tT) (eF m_integer_of (aCons (eVar 2) (aNil))))))
    (sRet (eIf (tB (e2 dIn (eC .non) (eVar 1))) (eC .non) (eN fTuple (aCons (eVar 1) (aNil)))))
def m_integers_of : List D → M D := runDef 3 1 b_integers_of
abbrev N_integers_of : List PySem.Str := [("words" : PySem.Str), ("found" : PySem.Str), ("word" : PySem.Str)]
theorem sc_integers_of : FnScope N_integers_of [("words" : PySem.Str)] (defScope Hd.s_integers_of) := ⟨rfl, rfl, rfl, by decide +kernel, rfl, by decide +kernel, by decide +kernel⟩
def b_numbers_behind : SM :=
    sSeq (sSet 2 (e2 dSplit (eVar 0) (eC (.str " "))))
    (sRet (eIf (tB (e2S dEq (e2S dIx (eVar 2) (eC (.int 0))) (eVar 1))) (eF m_integers_of (aCons (e3 dSlice (eVar 2) (oSome (eC (.int 1))) (oNone)) (aNil))) (eC .non)))
def m_numbers_behind : List D → M D := runDef 3 2 b_numbers_behind
abbrev N_numbers_behind : List PySem.Str := [("row" : PySem.Str), ("word" : PySem.Str), ("words" : PySem.Str)]
theorem sc_numbers_behind : FnScope N_numbers_behind [("row" : PySem.Str), ("word" : PySem.Str)] (defScope Hd.s_numbers_behind) := ⟨rfl, rfl, rfl, by decide +kernel, rfl, by decide +kernel, by decide +kernel⟩
def b_read_vocabulary_lines : SM :=
    sSeq (sSet 1 (e2 dSplit (e2S dIx (eVar 0) (eC (.int 0))) (eC (.str " "))))
    (sSeq (sIf (tOr (tB (e2S dNe (eN fLen (aCons (eVar 1) (aNil))) (eC (.int 2)))) (tOr (tB (e2S dNe (e2S dIx (eVar 1) (eC (.int 0))) (eC (.str "letters")))) (tNot (tB (eF m_are_letters (aCons (e2S dIx (eVar 1) (eC (.int 1))) (aNil))))))) (sRet (eTup (aCons (eC .non) (aCons (eC (.int 0)) (aNil))))) (sNop))
    (sSeq (sSet 2 (eTup (aCons (eC (.str "vocabulary")) (aCons (e2S dIx (eVar 1) (eC (.int 1))) (aCons (eTup (aNil)) (aNil))))))
    (sSeq (sFor (iEnum (e3 dSlice (eVar 0) (oSome (eC (.int 1))) (oNone))) (.tp [.nm 3, .nm 4]) (sSeq (sSet 5 (eF m_numbers_behind (aCons (eVar 4) (aCons (eC (.str "merge")) (aNil)))))
    (sSeq (sSet 6 (eIf (tB (e2 dIs (eVar 5) (eC .non))) (eC .non) (eTup (aCons (eC (.str "vocabulary")) (aCons (e2S dIx (eVar 1) (eC (.int 1))) (aCons (e2 dAdd (e2S dIx (eVar 2) (eC (.int 2))) (eTup (aCons (eVar 5) (aNil)))) (aNil)))))))
    (sSeq (sIf (tOr (tB (e2 dIs (eVar 6) (eC .non))) (tNot (tB (eF m_is_vocabulary_value (aCons (eVar 6) (aNil)))))) (sRet (eTup (aCons (eC .non) (aCons (e2 dAdd (eVar 3) (eC (.int 1))) (aNil))))) (sNop))
    (sSet 2 (eVar 6))))))
    (sRet (eTup (aCons (eVar 2) (aCons (eC .non) (aNil))))))))
def m_read_vocabulary_lines : List D → M D := runDef 7 1 b_read_vocabulary_lines
abbrev N_read_vocabulary_lines : List PySem.Str := [("rows" : PySem.Str), ("words" : PySem.Str), ("found" : PySem.Str), ("at" : PySem.Str), ("row" : PySem.Str), ("pair" : PySem.Str), ("longer" : PySem.Str)]
theorem sc_read_vocabulary_lines : FnScope N_read_vocabulary_lines [("rows" : PySem.Str)] (defScope Hd.s_read_vocabulary_lines) := ⟨rfl, rfl, rfl, by decide +kernel, rfl, by decide +kernel, by decide +kernel⟩
def b_entry_of : SM :=
    sSeq (sSet 1 (e2 dSplit (eVar 0) (eC (.str ":"))))
    (sSeq (sIf (tOr (tB (e2S dNe (eN fLen (aCons (eVar 1) (aNil))) (eC (.int 2)))) (tB (e2S dNe (e3 dSlice (e2S dIx (eVar 1) (eC (.int 1))) (oNone) (oSome (eC (.int 1)))) (eC (.str " "))))) (sRet (eC .non)) (sNop))
    (sSeq (sPar 2 3 (eF m_numbers_behind (aCons (e2S dIx (eVar 1) (eC (.int 0))) (aCons (eC (.str "after")) (aNil)))) (eF m_integers_of (aCons (e2 dSplit (e3 dSlice (e2S dIx (eVar 1) (eC (.int 1))) (oSome (eC (.int 1))) (oNone)) (eC (.str " "))) (aNil))))
    (sRet (eIf (tOr (tB (e2 dIs (eVar 2) (eC .non))) (tB (e2 dIs (eVar 3) (eC .non)))) (eC .non) (eTup (aCons (eVar 2) (aCons (eVar 3) (aNil))))))))
def m_entry_of : List D → M D := runDef 4 1 b_entry_of
abbrev N_entry_of : List PySem.Str := [("row" : PySem.Str), ("parts" : PySem.Str), ("last" : PySem.Str), ("weights" : PySem.Str)]
theorem sc_entry_of : FnScope N_entry_of [("row" : PySem.Str)] (defScope Hd.s_entry_of) := ⟨rfl, rfl, rfl, by decide +kernel, rfl, by decide +kernel, by decide +kernel⟩
def b_read_window_lines : SM :=
    sSeq (sSet 1 (eF m_numbers_behind (aCons (e2S dIx (eVar 0) (eC (.int 0))) (aCons (eC (.str "window")) (aNil)))))
    (sSeq (sIf (tOr (tB (e2S dNe (eN fLen (aCons (eVar 1) (aNil))) (eC (.int 2)))) (tOr (tB (e2 dLt (e2S dIx (eVar 1) (eC (.int 0))) (eC (.int 2)))) (tB (e2 dLt (e2S dIx (eVar 1) (eC (.int 1))) (eC (.int 0)))))) (sRet (eTup (aCons (eC .non) (aCons (eC (.int 0)) (aNil))))) (sNop))
    (sSeq (sSet 2 (eIf (tB (e2 dGt (eN fLen (aCons (eVar 0) (aNil))) (eC (.int 1)))) (eF m_numbers_behind (aCons (e2S dIx (eVar 0) (eC (.int 1))) (aCons (eC (.str "default")) (aNil)))) (eC .non)))
    (sSeq (sSet 3 (eIf (tB (e2 dIs (eVar 2) (eC .non))) (eC .non) (e2 dAdd (e2 dAdd (eTup (aCons (eC (.str "window")) (aNil))) (eVar 1)) (eTup (aCons (eTup (aNil)) (aCons (eVar 2) (aNil)))))))
    (sSeq (sIf (tOr (tB (e2 dIs (eVar 3) (eC .non))) (tNot (tB (eF m_is_model_value (aCons (eVar 3) (aNil)))))) (sRet (eTup (aCons (eC .non) (aCons (eC (.int 1)) (aNil))))) (sNop))
    (sSeq (sFor (iEnum (e3 dSlice (eVar 0) (oSome (eC (.int 2))) (oNone))) (.tp [.nm 4, .nm 5]) (sSeq (sSet 6 (eF m_entry_of (aCons (eVar 5) (aNil))))
    (sSeq (sSet 7 (eIf (tB (e2 dIs (eVar 6) (eC .non))) (eC .non) (e2 dAdd (e2 dAdd (e3 dSlice (eVar 3) (oNone) (oSome (eC (.int 3)))) (eTup (aCons (e2 dAdd (e2S dIx (eVar 3) (eC (.int 3))) (eTup (aCons (eVar 6) (aNil)))) (aNil)))) (e3 dSlice (eVar 3) (oSome (eC (.int 4))) (oNone)))))
    (sSeq (sIf (tOr (tB (e2 dIs (eVar 7) (eC .non))) (tNot (tB (eF m_is_model_value (aCons (eVar 7) (aNil)))))) (sRet (eTup (aCons (eC .non) (aCons (e2 dAdd (eVar 4) (eC (.int 2))) (aNil))))) (sNop))
    (sSet 3 (eVar 7))))))
    (sRet (eTup (aCons (eVar 3) (aCons (eC .non) (aNil))))))))))
def m_read_window_lines : List D → M D := runDef 8 1 b_read_window_lines
abbrev N_read_window_lines : List PySem.Str := [("rows" : PySem.Str), ("first" : PySem.Str), ("default" : PySem.Str), ("found" : PySem.Str), ("at" : PySem.Str), ("row" : PySem.Str), ("entry" : PySem.Str), ("longer" : PySem.Str)]
theorem sc_read_window_lines : FnScope N_read_window_lines [("rows" : PySem.Str)] (defScope Hd.s_read_window_lines) := ⟨rfl, rfl, rfl, by decide +kernel, rfl, by decide +kernel, by decide +kernel⟩
def b_taken_from : SM :=
    sSeq (sOwn 5 (aNil))
    (sSeq (sWhile (tAnd (tB (e2 dLt (eVar 1) (eN fLen (aCons (eVar 0) (aNil))))) (tB (e2 dLt (eN fLen (aCons (eVar 5) (aNil))) (eVar 3)))) (sSeq (sSet 6 (eF m_numbers_behind (aCons (e2S dIx (eVar 0) (eVar 1)) (aCons (eVar 2) (aNil)))))
    (sSeq (sIf (tOr (tB (e2 dIs (eVar 6) (eC .non))) (tB (e2S dNe (eN fLen (aCons (eVar 6) (aNil))) (eVar 4)))) (sBrk) (sNop))
    (sSeq (sApp 5 (eVar 6))
    (sAug 1 dAddI (eC (.int 1)))))) 4000)
    (sRet (eTup (aCons (eN fTuple (aCons (eVar 5) (aNil))) (aCons (eVar 1) (aNil))))))
def m_taken_from : List D → M D := runDef 7 5 b_taken_from
abbrev N_taken_from : List PySem.Str := [("rows" : PySem.Str), ("at" : PySem.Str), ("word" : PySem.Str), ("most" : PySem.Str), ("d" : PySem.Str), ("found" : PySem.Str), ("vector" : PySem.Str)]
theorem sc_taken_from : FnScope N_taken_from [("rows" : PySem.Str), ("at" : PySem.Str), ("word" : PySem.Str), ("most" : PySem.Str), ("d" : PySem.Str)] (defScope Hd.s_taken_from) := ⟨rfl, rfl, rfl, by decide +kernel, rfl, by decide +kernel, by decide +kernel⟩
def b_read_net_lines : SM :=
    sSeq (sSet 1 (eF m_numbers_behind (aCons (e2S dIx (eVar 0) (eC (.int 0))) (aCons (eC (.str "net")) (aNil)))))
    (sSeq (sIf (tOr (tB (e2S dNe (eN fLen (aCons (eVar 1) (aNil))) (eC (.int 2)))) (tOr (tB (e2 dLt (e2S dIx (eVar 1) (eC (.int 0))) (eC (.int 2)))) (tB (e2 dLt (e2S dIx (eVar 1) (eC (.int 1))) (eC (.int 1)))))) (sRet (eTup (aCons (eC .non) (aCons (eC (.int 0)) (aNil))))) (sNop))
    (sSeq (sAsg (.tp [.nm 2, .nm 3]) (eVar 1))
    (sSeq (sAsg (.tp [.nm 4, .nm 5]) (eF m_taken_from (aCons (eVar 0) (aCons (eC (.int 1)) (aCons (eC (.str "embed")) (aCons (eVar 2) (aCons (eVar 3) (aNil))))))))
    (sSeq (sIf (tB (e2 dLt (eN fLen (aCons (eVar 4) (aNil))) (eVar 2))) (sRet (eTup (aCons (eC .non) (aCons (eVar 5) (aNil))))) (sNop))
    (sSeq (sAsg (.tp [.nm 6, .nm 5]) (eF m_taken_from (aCons (eVar 0) (aCons (eVar 5) (aCons (eC (.str "place")) (aCons (eN fLen (aCons (eVar 0) (aNil))) (aCons (eVar 3) (aNil))))))))
    (sSeq (sIf (tB (e2S dEq (eVar 6) (eTup (aNil)))) (sRet (eTup (aCons (eC .non) (aCons (eVar 5) (aNil))))) (sNop))
    (sSeq (sSet 7 (eTup (aNil)))
    (sSeq (sWhile (tAnd (tB (e2 dLt (eVar 5) (eN fLen (aCons (eVar 0) (aNil))))) (tB (e2S dEq (e2S dIx (e2 dSplit (e2S dIx (eVar 0) (eVar 5)) (eC (.str " "))) (eC (.int 0))) (e2S dIx (eC (.ct (([("query" : PySem.Str), ("key" : PySem.Str), ("worth" : PySem.Str), ("mix" : PySem.Str)] : List PySem.Str).map D.str))) (eC (.int 0)))))) (sSeq (sSet 8 (eTup (aNil)))
    (sSeq (sFor (iSeq (eC (.ct (([("query" : PySem.Str), ("key" : PySem.Str), ("worth" : PySem.Str), ("mix" : PySem.Str)] : List PySem.Str).map D.str)))) (.nm 9) (sSeq (sAsg (.tp [.nm 10, .nm 5]) (eF m_taken_from (aCons (eVar 0) (aCons (eVar 5) (aCons (eVar 9) (aCons (eVar 3) (aCons (eVar 3) (aNil))))))))
    (sSeq (sIf (tB (e2 dLt (eN fLen (aCons (eVar 10) (aNil))) (eVar 3))) (sRet (eTup (aCons (eC .non) (aCons (eVar 5) (aNil))))) (sNop))
    (sSet 8 (e2 dAdd (eVar 8) (eTup (aCons (eVar 10) (aNil))))))))
    (sSet 7 (e2 dAdd (eVar 7) (eTup (aCons (eVar 8) (aNil))))))) 4000)
    (sSeq (sAsg (.tp [.nm 11, .nm 5]) (eF m_taken_from (aCons (eVar 0) (aCons (eVar 5) (aCons (eC (.str "out")) (aCons (eVar 2) (aCons (eVar 3) (aNil))))))))
    (sSeq (sIf (tOr (tB (e2 dLt (eN fLen (aCons (eVar 11) (aNil))) (eVar 2))) (tB (e2 dLt (eVar 5) (eN fLen (aCons (eVar 0) (aNil)))))) (sRet (eTup (aCons (eC .non) (aCons (eVar 5) (aNil))))) (sNop))
    (sRet (eTup (aCons (eTup (aCons (eC (.str "net")) (aCons (eVar 2) (aCons (eVar 3) (aCons (eVar 4) (aCons (eVar 6) (aCons (eVar 7) (aCons (eVar 11) (aNil))))))))) (aCons (eC .non) (aNil)))))))))))))))
def m_read_net_lines : List D → M D := runDef 12 1 b_read_net_lines
abbrev N_read_net_lines : List PySem.Str := [("rows" : PySem.Str), ("first" : PySem.Str), ("many" : PySem.Str), ("d" : PySem.Str), ("embeds" : PySem.Str), ("at" : PySem.Str), ("places" : PySem.Str), ("layers" : PySem.Str), ("layer" : PySem.Str), ("word" : PySem.Str), ("matrix" : PySem.Str), ("outs" : PySem.Str)]
theorem sc_read_net_lines : FnScope N_read_net_lines [("rows" : PySem.Str)] (defScope Hd.s_read_net_lines) := ⟨rfl, rfl, rfl, by decide +kernel, rfl, by decide +kernel, by decide +kernel⟩
def b_read_model_lines : SM :=
    sSeq (sIf (tB (e2 dIsNot (eF m_numbers_behind (aCons (e2S dIx (eVar 0) (eC (.int 0))) (aCons (eC (.str "window")) (aNil)))) (eC .non))) (sRet (eF m_read_window_lines (aCons (eVar 0) (aNil)))) (sNop))
    (sSeq (sIf (tB (e2 dIsNot (eF m_numbers_behind (aCons (e2S dIx (eVar 0) (eC (.int 0))) (aCons (eC (.str "net")) (aNil)))) (eC .non))) (sRet (eF m_read_net_lines (aCons (eVar 0) (aNil)))) (sNop))
    (sRet (eTup (aCons (eC .non) (aCons (eC (.int 0)) (aNil))))))
def m_read_model_lines : List D → M D := runDef 1 1 b_read_model_lines
abbrev N_read_model_lines : List PySem.Str := [("rows" : PySem.Str)]
theorem sc_read_model_lines : FnScope N_read_model_lines [("rows" : PySem.Str)] (defScope Hd.s_read_model_lines) := ⟨rfl, rfl, rfl, by decide +kernel, rfl, by decide +kernel, by decide +kernel⟩
def b_model_text : SM :=
    sSeq (sDrop (eF m_need_model (aCons (eVar 0) (aNil))))
    (sRet (e2 dJoin (eC (.str "\n")) (eF m_model_lines (aCons (eVar 0) (aNil)))))
def m_model_text : List D → M D := runDef 1 1 b_model_text
abbrev N_model_text : List PySem.Str := [("model" : PySem.Str)]
theorem sc_model_text : FnScope N_model_text [("model" : PySem.Str)] (defScope Hd.s_model_text) := ⟨rfl, rfl, rfl, by decide +kernel, rfl, by decide +kernel, by decide +kernel⟩
def b_vocabulary_text : SM :=
    sSeq (sDrop (eF m_need_vocabulary (aCons (eVar 0) (aNil))))
    (sRet (e2 dJoin (eC (.str "\n")) (eF m_vocabulary_lines (aCons (eVar 0) (aNil)))))
def m_vocabulary_text : List D → M D := runDef 1 1 b_vocabulary_text
abbrev N_vocabulary_text : List PySem.Str := [("vocabulary" : PySem.Str)]
theorem sc_vocabulary_text : FnScope N_vocabulary_text [("vocabulary" : PySem.Str)] (defScope Hd.s_vocabulary_text) := ⟨rfl, rfl, rfl, by decide +kernel, rfl, by decide +kernel, by decide +kernel⟩
def b_rows_of_text : SM :=
    sSeq (sIf (tNot (tB (eIsi .str (eVar 0)))) (sNever) (sNop))
    (sRet (e2 dSplit (eVar 0) (eC (.str "\n"))))
def m_rows_of_text : List D → M D := runDef 1 1 b_rows_of_text
abbrev N_rows_of_text : List PySem.Str := [("text" : PySem.Str)]
theorem sc_rows_of_text : FnScope N_rows_of_text [("text" : PySem.Str)] (defScope Hd.s_rows_of_text) := ⟨rfl, rfl, rfl, by decide +kernel, rfl, by decide +kernel, by decide +kernel⟩
def b_read_model : SM :=
    sSeq (sAsg (.tp [.nm 1, .nm 2]) (eF m_read_model_lines (aCons (eF m_rows_of_text (aCons (eVar 0) (aNil))) (aNil))))
    (sSeq (sIf (tB (e2 dIs (eVar 1) (eC .non))) (sNever) (sNop))
    (sRet (eVar 1)))
def m_read_model : List D → M D := runDef 3 1 b_read_model
abbrev N_read_model : List PySem.Str := [("text" : PySem.Str), ("found" : PySem.Str), ("at" : PySem.Str)]
theorem sc_read_model : FnScope N_read_model [("text" : PySem.Str)] (defScope Hd.s_read_model) := ⟨rfl, rfl, rfl, by decide +kernel, rfl, by decide +kernel, by decide +kernel⟩
def b_read_vocabulary : SM :=
    sSeq (sAsg (.tp [.nm 1, .nm 2]) (eF m_read_vocabulary_lines (aCons (eF m_rows_of_text (aCons (eVar 0) (aNil))) (aNil))))
    (sSeq (sIf (tB (e2 dIs (eVar 1) (eC .non))) (sNever) (sNop))
    (sRet (eVar 1)))
def m_read_vocabulary : List D → M D := runDef 3 1 b_read_vocabulary
abbrev N_read_vocabulary : List PySem.Str := [("text" : PySem.Str), ("found" : PySem.Str), ("at" : PySem.Str)]
theorem sc_read_vocabulary : FnScope N_read_vocabulary [("text" : PySem.Str)] (defScope Hd.s_read_vocabulary) := ⟨rfl, rfl, rfl, by decide +kernel, rfl, by decide +kernel, by decide +kernel⟩
def b_need_tokens : SM :=
    sSeq (sDrop (eF m_need_model (aCons (eVar 0) (aNil))))
    (sIf (tNot (tB (eF m_are_model_tokens (aCons (eVar 0) (aCons (eVar 1) (aNil)))))) (sNever) (sNop))
def m_need_tokens : List D → M D := runDef 2 2 b_need_tokens
abbrev N_need_tokens : List PySem.Str := [("model" : PySem.Str), ("tokens" : PySem.Str)]
theorem sc_need_tokens : FnScope N_need_tokens [("model" : PySem.Str), ("tokens" : PySem.Str)] (defScope Hd.s_need_tokens) := ⟨rfl, rfl, rfl, by decide +kernel, rfl, by decide +kernel, by decide +kernel⟩
def b_model_weights : SM :=
    sSeq (sDrop (eF m_need_tokens (aCons (eVar 0) (aCons (eVar 1) (aNil)))))
    (sRet (eF m_weights_raw (aCons (eVar 0) (aCons (eVar 1) (aNil)))))
def m_model_weights : List D → M D := runDef 2 2 b_model_weights
abbrev N_model_weights : List PySem.Str := [("model" : PySem.Str), ("tokens" : PySem.Str)]
theorem sc_model_weights : FnScope N_model_weights [("model" : PySem.Str), ("tokens" : PySem.Str)] (defScope Hd.s_model_weights) := ⟨rfl, rfl, rfl, by decide +kernel, rfl, by decide +kernel, by decide +kernel⟩
def b__law_deck : SM :=
    sSeq (sSet 1 (eC (.int 14409979)))
    (sSeq (sFor (iSeq (e3 dSlice (eVar 0) (oNone) (oSome (eC (.int 63))))) (.nm 2) (sSet 1 (e2 dMod (eN fInt (aCons (e2 dAdd (e2 dAdd (e2 dMul (eVar 1) (eC (.int 69621))) (e2 dMod (eN fInt (aCons (eVar 2) (aNil))) (eC (.int 2147483629)))) (eC (.int 77))) (aNil))) (eC (.int 2147483587)))))
    (sRet (eDic [(.inr ("left" : PySem.Str) : Key), (.inr ("mixed" : PySem.Str) : Key), (.inr ("draws" : PySem.Str) : Key)] (aCons (eCell (eRev (eN fList (aCons (e3 dSlice (eVar 0) (oNone) (oSome (eC (.int 63)))) (aNil))))) (aCons (eVar 1) (aCons (eC (.int 0)) (aNil)))))))
def m__law_deck : List D → M D := runDef 3 1 b__law_deck
abbrev N__law_deck : List PySem.Str := [("_law_script" : PySem.Str), ("_law_mixed" : PySem.Str), ("_law_cell" : PySem.Str)]
theorem sc__law_deck : FnScope N__law_deck [("_law_script" : PySem.Str)] (defScope Hd.s__law_deck) := ⟨rfl, rfl, rfl, by decide +kernel, rfl, by decide +kernel, by decide +kernel⟩
def b__law_draw : SM :=
    sSeq (sPut (eVar 0) (eC (.str "draws")) (e2 dAdd (e2S dIx (eVar 0) (eC (.str "draws"))) (eC (.int 1))))
    (sSeq (sSet 2 (e2 dAdd (e2S dIx (eVar 0) (eC (.str "mixed"))) (e2 dMul (eC (.int 60013)) (e2S dIx (eVar 0) (eC (.str "draws"))))))
    (sSeq (sIf (tB (e2S dNe (e2S dIx (eVar 0) (eC (.str "left"))) (eL (aNil)))) (sSeq (sSet 3 (ePop (e2S dIx (eVar 0) (eC (.str "left")))))
    (sSeq (sIf (tB (e2 dGe (eVar 3) (e2 dPow (eC (.int 10)) (eC (.int 18))))) (sSeq (sDrop (eAppC (e2S dIx (eVar 0) (eC (.str "left"))) (e2 dDiv (eVar 3) (eN fMax (aCons (eC (.int 2)) (aCons (eVar 1) (aNil)))))))
    (sRet (e2 dMod (eN fInt (aCons (eVar 3) (aNil))) (eVar 1)))) (sNop))
    (sSet 2 (e2 dAdd (eVar 2) (e2 dMod (eN fInt (aCons (eVar 3) (aNil))) (eC (.int 2147483629))))))) (sNop))
    (sSeq (sSet 2 (e2 dMod (eN fInt (aCons (e2 dAdd (e2 dMul (eVar 2) (eC (.int 48271))) (eC (.int 53))) (aNil))) (eC (.int 2147483563))))
    (sSeq (sSet 2 (e2 dMod (eN fInt (aCons (e2 dAdd (e2 dAdd (e2 dMul (eVar 2) (eVar 2)) (e2 dMul (eC (.int 52713)) (e2S dIx (eVar 0) (eC (.str "draws"))))) (eC (.int 55))) (aNil))) (eC (.int 2147483399))))
    (sSeq (sSet 2 (e2 dMod (eN fInt (aCons (e2 dMul (eVar 2) (eC (.int 48271))) (aNil))) (eC (.int 2147483647))))
    (sRet (e2 dMod (eN fInt (aCons (e2 dDiv (eVar 2) (eC (.int 64))) (aNil))) (eVar 1))))))))
def m__law_draw : List D → M D := runDef 4 2 b__law_draw
abbrev N__law_draw : List PySem.Str := [("_law_deck_here" : PySem.Str), ("_law_many" : PySem.Str), ("_law_figure" : PySem.Str), ("_law_cell" : PySem.Str)]
theorem sc__law_draw : FnScope N__law_draw [("_law_deck_here" : PySem.Str), ("_law_many" : PySem.Str)] (defScope Hd.s__law_draw) := ⟨rfl, rfl, rfl, by decide +kernel, rfl, by decide +kernel, by decide +kernel⟩
def b__law_pick : SM :=
    sRet (e2S dIx (eVar 1) (eF m__law_draw (aCons (eVar 0) (aCons (eN fLen (aCons (eVar 1) (aNil))) (aNil)))))
def m__law_pick : List D → M D := runDef 2 2 b__law_pick
abbrev N__law_pick : List PySem.Str := [("_law_deck_here" : PySem.Str), ("_law_some" : PySem.Str)]
theorem sc__law_pick : FnScope N__law_pick [("_law_deck_here" : PySem.Str), ("_law_some" : PySem.Str)] (defScope Hd.s__law_pick) := ⟨rfl, rfl, rfl, by decide +kernel, rfl, by decide +kernel, by decide +kernel⟩
def b__law_dot : SM :=
    sRet (eN fSum (aCons (eL (fLc (iZip (eVar 0) (eVar 1)) [2, 3] (.tp [.nm 2, .nm 3]) (tT) (e2 dMul (eVar 2) (eVar 3)))) (aNil)))
def m__law_dot : List D → M D := runDef 4 2 b__law_dot
abbrev N__law_dot : List PySem.Str := [("_law_one" : PySem.Str), ("_law_other" : PySem.Str), ("_law_a" : PySem.Str), ("_law_b" : PySem.Str)]
theorem sc__law_dot : FnScope N__law_dot [("_law_one" : PySem.Str), ("_law_other" : PySem.Str)] (defScope Hd.s__law_dot) := ⟨rfl, rfl, rfl, by decide +kernel, rfl, by decide +kernel, by decide +kernel⟩
def b__law_times : SM :=
    sRet (eN fTuple (aCons (eL (fLc (iSeq (eVar 0)) [2] (.nm 2) (tT) (eF m__law_dot (aCons (eVar 2) (aCons (eVar 1) (aNil)))))) (aNil)))
def m__law_times : List D → M D := runDef 3 2 b__law_times
abbrev N__law_times : List PySem.Str := [("_law_matrix" : PySem.Str), ("_law_vector" : PySem.Str), ("_law_row" : PySem.Str)]
theorem sc__law_times : FnScope N__law_times [("_law_matrix" : PySem.Str), ("_law_vector" : PySem.Str)] (defScope Hd.s__law_times) := ⟨rfl, rfl, rfl, by decide +kernel, rfl, by decide +kernel, by decide +kernel⟩
def b__law_clipped : SM :=
    sRet (eN fTuple (aCons (eL (fLc (iZip (eVar 0) (eVar 1)) [2, 3] (.tp [.nm 2, .nm 3]) (tT) (eN fMax (aCons (e1 dNeg (eC (.int 20))) (aCons (eN fMin (aCons (eC (.int 20)) (aCons (e2 dAdd (eVar 2) (eVar 3)) (aNil)))) (aNil)))))) (aNil)))
def m__law_clipped : List D → M D := runDef 4 2 b__law_clipped
abbrev N__law_clipped : List PySem.Str := [("_law_one" : PySem.Str), ("_law_other" : PySem.Str), ("_law_a" : PySem.Str), ("_law_b" : PySem.Str)]
theorem sc__law_clipped : FnScope N__law_clipped [("_law_one" : PySem.Str), ("_law_other" : PySem.Str)] (defScope Hd.s__law_clipped) := ⟨rfl, rfl, rfl, by decide +kernel, rfl, by decide +kernel, by decide +kernel⟩
def b__law_looked : SM :=
    sSeq (sSet 2 (eL (fLc (iSeq (eVar 0)) [3] (.nm 3) (tT) (eTup (aCons (eF m__law_times (aCons (e2S dIx (eVar 1) (eC (.int 1))) (aCons (eVar 3) (aNil)))) (aCons (eF m__law_times (aCons (e2S dIx (eVar 1) (eC (.int 2))) (aCons (eVar 3) (aNil)))) (aNil)))))))
    (sSeq (sOwn 4 (aNil))
    (sSeq (sFor (iEnum (eVar 0)) (.tp [.nm 5, .nm 3]) (sSeq (sSet 6 (eF m__law_times (aCons (e2S dIx (eVar 1) (eC (.int 0))) (aCons (eVar 3) (aNil)))))
    (sSeq (sSet 7 (eL (fLc (iSeq (e3 dSlice (eVar 2) (oNone) (oSome (e2 dAdd (eVar 5) (eC (.int 1)))))) [8, 9] (.tp [.nm 8, .nm 9]) (tT) (eF m__law_dot (aCons (eVar 6) (aCons (eVar 8) (aNil)))))))
    (sSeq (sSet 10 (eL (fLc (iSeq (eVar 7)) [11] (.nm 11) (tT) (e2 dShl (eC (.int 1)) (eN fMax (aCons (eC (.int 0)) (aCons (e2 dSub (eC (.int 6)) (e2 dSub (eN fMax (aCons (eVar 7) (aNil))) (eVar 11))) (aNil))))))))
    (sSeq (sParVO 12 13 (eN fSum (aCons (eVar 10) (aNil))) (aNil))
    (sSeq (sFor (iRange (aCons (eN fLen (aCons (eVar 3) (aNil))) (aNil))) (.nm 14) (sApp 13 (e2 dDiv (eN fSum (aCons (eL (fLc (iZip (eVar 10) (eVar 2)) [15, 16] (.tp [.nm 15, .nm 16]) (tT) (e2 dMul (eVar 15) (e2S dIx (e2S dIx (eVar 16) (eC (.int 1))) (eVar 14))))) (aNil))) (eVar 12))))
    (sAppF 4 (eF m__law_clipped (aCons (eVar 3) (aCons (eF m__law_times (aCons (e2S dIx (eVar 1) (eC (.int 3))) (aCons (eVar 13) (aNil)))) (aNil)))))))))))
    (sRet (eTup (aCons (eVar 2) (aCons (eVar 4) (aNil)))))))
def m__law_looked : List D → M D := runDef 17 2 b__law_looked
abbrev N__law_looked : List PySem.Str := [("_law_states" : PySem.Str), ("_law_layer" : PySem.Str), ("_law_pairs" : PySem.Str), ("_law_state" : PySem.Str), ("_law_later" : PySem.Str), ("_law_p" : PySem.Str), ("_law_asked" : PySem.Str), ("_law_scores" : PySem.Str), ("_law_key" : PySem.Str), ("_law_worth" : PySem.Str), ("_law_shares" : PySem.Str), ("_law_score" : PySem.Str), ("_law_total" : PySem.Str), ("_law_answer" : PySem.Str), ("_law_at" : PySem.Str), ("_law_share" : PySem.Str), ("_law_pair" : PySem.Str)]
theorem sc__law_looked : FnScope N__law_looked [("_law_states" : PySem.Str), ("_law_layer" : PySem.Str)] (defScope Hd.s__law_looked) := ⟨rfl, rfl, rfl, by decide +kernel, rfl, by decide +kernel, by decide +kernel⟩
def b__law_seen : SM :=
    sSeq (sIf (tB (e2S dEq (e2S dIx (eVar 0) (eC (.int 0))) (eC (.str "window")))) (sSeq (sSet 2 (eN fTuple (aCons (e3 dSlice (eVar 1) (oSome (eN fMax (aCons (eC (.int 0)) (aCons (e2 dSub (eN fLen (aCons (eVar 1) (aNil))) (e2S dIx (eVar 0) (eC (.int 2)))) (aNil))))) (oNone)) (aNil))))
    (sSeq (sSet 3 (e2 dAdd (eL (fLc (iSeq (e2S dIx (eVar 0) (eC (.int 3)))) [4, 5] (.tp [.nm 4, .nm 5]) (tB (e2S dEq (eVar 4) (eVar 2))) (eVar 5))) (eL (aCons (e2S dIx (eVar 0) (eC (.int 4))) (aNil)))))
    (sRet (eTup (aCons (eN fTuple (aCons (eL (fLc (iSeq (eVar 1)) [6] (.nm 6) (tT) (eTup (aCons (eVar 6) (aNil))))) (aNil))) (aCons (e2S dIx (eVar 3) (eC (.int 0))) (aNil))))))) (sNop))
    (sSeq (sSet 7 (e2S dIx (eVar 0) (eC (.int 4))))
    (sSeq (sSet 8 (eL (fLc (iEnum (eVar 1)) [9, 6] (.tp [.nm 9, .nm 6]) (tT) (eF m__law_clipped (aCons (e2S dIx (e2S dIx (eVar 0) (eC (.int 3))) (eVar 6)) (aCons (e2S dIx (eVar 7) (e2 dMod (eN fInt (aCons (eVar 9) (aNil))) (eN fLen (aCons (eVar 7) (aNil))))) (aNil)))))))
    (sSeq (sSet 10 (e2 dMul (eL (aCons (eTup (aNil)) (aNil))) (eN fLen (aCons (eVar 1) (aNil)))))
    (sSeq (sFor (iSeq (e2S dIx (eVar 0) (eC (.int 5)))) (.nm 11) (sSeq (sAsg (.tp [.nm 12, .nm 8]) (eF m__law_looked (aCons (eVar 8) (aCons (eVar 11) (aNil)))))
    (sSet 10 (eL (fLc (iZip (eVar 10) (eVar 12)) [13, 14] (.tp [.nm 13, .nm 14]) (tT) (e2 dAdd (eVar 13) (eTup (aCons (eVar 14) (aNil)))))))))
    (sSeq (sSet 15 (eL (fLc (iSeq (e2S dIx (eVar 0) (eC (.int 6)))) [16] (.nm 16) (tT) (eF m__law_dot (aCons (eVar 16) (aCons (e2S dIx (eVar 8) (e1 dNeg (eC (.int 1)))) (aNil)))))))
    (sRet (eTup (aCons (eN fTuple (aCons (eVar 10) (aNil))) (aCons (eN fTuple (aCons (eL (fLc (iSeq (eVar 15)) [17] (.nm 17) (tT) (e2 dShl (eC (.int 1)) (eN fMax (aCons (eC (.int 0)) (aCons (e2 dSub (eC (.int 6)) (e2 dSub (eN fMax (aCons (eVar 15) (aNil))) (eVar 17))) (aNil))))))) (aNil))) (aNil))))))))))
def m__law_seen : List D → M D := runDef 18 2 b__law_seen
abbrev N__law_seen : List PySem.Str := [("_law_model" : PySem.Str), ("_law_tokens" : PySem.Str), ("_law_last" : PySem.Str), ("_law_found" : PySem.Str), ("_law_key" : PySem.Str), ("_law_weights" : PySem.Str), ("_law_token" : PySem.Str), ("_law_places" : PySem.Str), ("_law_states" : PySem.Str), ("_law_p" : PySem.Str), ("_law_rows" : PySem.Str), ("_law_layer" : PySem.Str), ("_law_pairs" : PySem.Str), ("_law_row" : PySem.Str), ("_law_pair" : PySem.Str), ("_law_products" : PySem.Str), ("_law_out" : PySem.Str), ("_law_product" : PySem.Str)]
theorem sc__law_seen : FnScope N__law_seen [("_law_model" : PySem.Str), ("_law_tokens" : PySem.Str)] (defScope Hd.s__law_seen) := ⟨rfl, rfl, rfl, by decide +kernel, rfl, by decide +kernel, by decide +kernel⟩
def b__law_some_weights : SM :=
    sSeq (sSet 2 (eL (fLc (iRange (aCons (eVar 1) (aNil))) [3] (.nm 3) (tT) (eF m__law_pick (aCons (eVar 0) (aCons (eL (aCons (eC (.int 0)) (aCons (eC (.int 1)) (aCons (eC (.int 1)) (aCons (eC (.int 2)) (aCons (eC (.int 3)) (aCons (eC (.int 5)) (aCons (e2 dAdd (eC (.int 1)) (eF m__law_draw (aCons (eVar 0) (aCons (eC (.int 20)) (aNil))))) (aNil))))))))) (aNil)))))))
    (sRet (eN fTuple (aCons (eIf (tB (e2 dGt (eN fSum (aCons (eVar 2) (aNil))) (eC (.int 0)))) (eVar 2) (e2 dAdd (eL (aCons (eC (.int 1)) (aNil))) (e3 dSlice (eVar 2) (oSome (eC (.int 1))) (oNone)))) (aNil))))
def m__law_some_weights : List D → M D := runDef 4 2 b__law_some_weights
abbrev N__law_some_weights : List PySem.Str := [("_law_deck_here" : PySem.Str), ("_law_many" : PySem.Str), ("_law_found" : PySem.Str), ("_law_token" : PySem.Str)]
theorem sc__law_some_weights : FnScope N__law_some_weights [("_law_deck_here" : PySem.Str), ("_law_many" : PySem.Str)] (defScope Hd.s__law_some_weights) := ⟨rfl, rfl, rfl, by decide +kernel, rfl, by decide +kernel, by decide +kernel⟩
def b__law_window : SM :=
    sSeq (sAsg (.tp [.nm 2, .nm 3]) (eTup (aCons (eF m__law_draw (aCons (eVar 0) (aCons (eC (.int 3)) (aNil)))) (aCons (eDicNew true) (aNil)))))
    (sSeq (sFor (iRange (aCons (eIf (tB (e2 dGt (eVar 2) (eC (.int 0)))) (eF m__law_draw (aCons (eVar 0) (aCons (eC (.int 5)) (aNil)))) (eF m__law_draw (aCons (eVar 0) (aCons (eC (.int 2)) (aNil))))) (aNil))) (.nm 4) (sSeq (sSet 5 (eN fTuple (aCons (e3 dSlice (eL (fLc (iRange (aCons (eF m__law_pick (aCons (eVar 0) (aCons (e3 dSlice (eL (aCons (eVar 2) (aCons (eVar 2) (aCons (eVar 2) (aCons (eC (.int 0)) (aCons (eC (.int 1)) (aNil))))))) (oNone) (oSome (e2 dAdd (eC (.int 4)) (eVar 2)))) (aNil)))) (aNil))) [6] (.nm 6) (tT) (eF m__law_draw (aCons (eVar 0) (aCons (eVar 1) (aNil)))))) (oNone) (oSome (eVar 2))) (aNil))))
    (sPut (eVar 3) (eVar 5) (eF m__law_some_weights (aCons (eVar 0) (aCons (eVar 1) (aNil)))))))
    (sRet (eTup (aCons (eC (.str "window")) (aCons (eVar 1) (aCons (eVar 2) (aCons (eN fTuple (aCons (eL (fLc (iSeq (eNS fSortedS (aCons (eVar 3) (aNil)))) [5] (.nm 5) (tT) (eTup (aCons (eVar 5) (aCons (e2S dIx (eVar 3) (eVar 5)) (aNil)))))) (aNil))) (aCons (eF m__law_some_weights (aCons (eVar 0) (aCons (eVar 1) (aNil)))) (aNil)))))))))
def m__law_window : List D → M D := runDef 7 2 b__law_window
abbrev N__law_window : List PySem.Str := [("_law_deck_here" : PySem.Str), ("_law_many" : PySem.Str), ("_law_k" : PySem.Str), ("_law_entries" : PySem.Str), ("_law_turn" : PySem.Str), ("_law_last" : PySem.Str), ("_law_at" : PySem.Str)]
theorem sc__law_window : FnScope N__law_window [("_law_deck_here" : PySem.Str), ("_law_many" : PySem.Str)] (defScope Hd.s__law_window) := ⟨rfl, rfl, rfl, by decide +kernel, rfl, by decide +kernel, by decide +kernel⟩
def b__law_vectors : SM :=
    sRet (eN fTuple (aCons (eL (fLc (iRange (aCons (eVar 1) (aNil))) [4] (.nm 4) (tT) (eN fTuple (aCons (eL (fLc (iRange (aCons (eVar 2) (aNil))) [3] (.nm 3) (tT) (e2 dSub (eF m__law_draw (aCons (eVar 0) (aCons (eC (.int 7)) (aNil)))) (eC (.int 3))))) (aNil))))) (aNil)))
def m__law_vectors : List D → M D := runDef 5 3 b__law_vectors
abbrev N__law_vectors : List PySem.Str := [("_law_deck_here" : PySem.Str), ("_law_many" : PySem.Str), ("_law_d" : PySem.Str), ("_law_at" : PySem.Str), ("_law_turn" : PySem.Str)]
theorem sc__law_vectors : FnScope N__law_vectors [("_law_deck_here" : PySem.Str), ("_law_many" : PySem.Str), ("_law_d" : PySem.Str)] (defScope Hd.s__law_vectors) := ⟨rfl, rfl, rfl, by decide +kernel, rfl, by decide +kernel, by decide +kernel⟩
def b__law_net : SM :=
    sSeq (sSet 3 (e2 dAdd (eC (.int 1)) (eF m__law_draw (aCons (eVar 0) (aCons (eC (.int 2)) (aNil))))))
    (sSeq (sSet 4 (eN fTuple (aCons (eL (fLc (iRange (aCons (e2 dAdd (eC (.int 1)) (eF m__law_draw (aCons (eVar 0) (aCons (eVar 2) (aNil))))) (aNil))) [6] (.nm 6) (tT) (eN fTuple (aCons (eL (fLc (iRange (aCons (eC (.int 4)) (aNil))) [5] (.nm 5) (tT) (eF m__law_vectors (aCons (eVar 0) (aCons (eVar 3) (aCons (eVar 3) (aNil))))))) (aNil))))) (aNil))))
    (sSeq (sPar 7 8 (eF m__law_vectors (aCons (eVar 0) (aCons (eVar 1) (aCons (eVar 3) (aNil))))) (eF m__law_vectors (aCons (eVar 0) (aCons (e2 dAdd (eC (.int 1)) (eF m__law_draw (aCons (eVar 0) (aCons (eC (.int 3)) (aNil))))) (aCons (eVar 3) (aNil))))))
    (sRet (eTup (aCons (eC (.str "net")) (aCons (eVar 1) (aCons (eVar 3) (aCons (eVar 7) (aCons (eVar 8) (aCons (eVar 4) (aCons (eF m__law_vectors (aCons (eVar 0) (aCons (eVar 1) (aCons (eVar 3) (aNil))))) (aNil))))))))))))
def m__law_net : List D → M D := runDef 9 3 b__law_net
abbrev N__law_net : List PySem.Str := [("_law_deck_here" : PySem.Str), ("_law_many" : PySem.Str), ("_law_most" : PySem.Str), ("_law_d" : PySem.Str), ("_law_layers" : PySem.Str), ("_law_part" : PySem.Str), ("_law_turn" : PySem.Str), ("_law_embeds" : PySem.Str), ("_law_places" : PySem.Str)]
theorem sc__law_net : FnScope N__law_net [("_law_deck_here" : PySem.Str), ("_law_many" : PySem.Str), ("_law_most" : PySem.Str)] (defScope Hd.s__law_net) := ⟨rfl, rfl, rfl, by decide +kernel, rfl, by decide +kernel, by decide +kernel⟩
def b__law_vocabulary : SM :=
    sSeq (sSet 2 (e3 dSlice (eF m__law_pick (aCons (eVar 0) (aCons (eL (aCons (eC (.str "abc")) (aCons (eC (.str "zyx")) (aCons (eC (.str "ba")) (aCons (eC (.str "qrst")) (aCons (eC (.str "a")) (aNil))))))) (aNil)))) (oNone) (oSome (e2 dSub (eVar 1) (eC (.int 1))))))
    (sSeq (sParOO 3 4 (aNil) (f2 fAdd (eL (aCons (eC (.str "")) (aNil))) (eN fList (aCons (eVar 2) (aNil)))))
    (sSeq (sWhile (tB (e2 dLt (eN fLen (aCons (eVar 4) (aNil))) (eVar 1))) (sSeq (sParF 5 6 (e2 dAdd (eC (.int 1)) (eF m__law_draw (aCons (eVar 0) (aCons (e2 dSub (eN fLen (aCons (eVar 4) (aNil))) (eC (.int 1))) (aNil))))) (e2 dAdd (eC (.int 1)) (eF m__law_draw (aCons (eVar 0) (aCons (e2 dSub (eN fLen (aCons (eVar 4) (aNil))) (eC (.int 1))) (aNil))))))
    (sSeq (sIfF (tB (e2 dIn (e2 dAdd (e2S dIx (eVar 4) (eVar 5)) (e2S dIx (eVar 4) (eVar 6))) (eVar 4))) (sParF 5 6 (e2 dSub (eN fLen (aCons (eVar 4) (aNil))) (eC (.int 1))) (e2 dSub (eN fLen (aCons (eVar 4) (aNil))) (eC (.int 1)))) (sNop))
    (sSeq (sIfF (tB (e2 dIn (e2 dAdd (e2S dIx (eVar 4) (eVar 5)) (e2S dIx (eVar 4) (eVar 6))) (eVar 4))) (sSeq (sSetF 5 (e2S dIx (e2S dIx (eNS fSortedS (aCons (eL (fLc (iEnum (eVar 4)) [7, 8] (.tp [.nm 7, .nm 8]) (tT) (eTup (aCons (eN fLen (aCons (eVar 8) (aNil))) (aCons (eVar 7) (aNil)))))) (aNil))) (e1 dNeg (eC (.int 1)))) (eC (.int 1))))
    (sSet 6 (eVar 5))) (sNop))
    (sSeq (sApp 3 (eTup (aCons (eVar 5) (aCons (eVar 6) (aNil)))))
    (sAppF 4 (e2 dAdd (e2S dIx (eVar 4) (eVar 5)) (e2S dIx (eVar 4) (eVar 6)))))))) 4000)
    (sRet (eTup (aCons (eC (.str "vocabulary")) (aCons (eVar 2) (aCons (eN fTuple (aCons (eVar 3) (aNil))) (aNil))))))))
def m__law_vocabulary : List D → M D := runDef 9 2 b__law_vocabulary
abbrev N__law_vocabulary : List PySem.Str := [("_law_deck_here" : PySem.Str), ("_law_many" : PySem.Str), ("_law_letters" : PySem.Str), ("_law_merges" : PySem.Str), ("_law_pieces" : PySem.Str), ("_law_i" : PySem.Str), ("_law_j" : PySem.Str), ("_law_at" : PySem.Str), ("_law_piece" : PySem.Str)]
theorem sc__law_vocabulary : FnScope N__law_vocabulary [("_law_deck_here" : PySem.Str), ("_law_many" : PySem.Str)] (defScope Hd.s__law_vocabulary) := ⟨rfl, rfl, rfl, by decide +kernel, rfl, by decide +kernel, by decide +kernel⟩
def b__law_words : SM :=
    sRet (e2 dJoin (eC (.str "")) (eL (fLc (iSeq (eVar 0)) [1] (.nm 1) (tT) (e2 dAdd (eC (.str " ")) (eN fStr (aCons (eVar 1) (aNil)))))))
def m__law_words : List D → M D := runDef 2 1 b__law_words
abbrev N__law_words : List PySem.Str := [("_law_numbers" : PySem.Str), ("_law_number" : PySem.Str)]
theorem sc__law_words : FnScope N__law_words [("_law_numbers" : PySem.Str)] (defScope Hd.s__law_words) := ⟨rfl, rfl, rfl, by decide +kernel, rfl, by decide +kernel, by decide +kernel⟩
def b__law_model_text : SM :=
    sSeq (sOwn 1 (aCons (e2 dAdd (e2S dIx (eVar 0) (eC (.int 0))) (eF m__law_words (aCons (e3 dSlice (eVar 0) (oSome (eC (.int 1))) (oSome (eC (.int 3)))) (aNil)))) (aNil)))
    (sSeq (sIf (tB (e2S dEq (e2S dIx (eVar 0) (eC (.int 0))) (eC (.str "window")))) (sSeq (sApp 1 (e2 dAdd (eC (.str "default")) (eF m__law_words (aCons (e2S dIx (eVar 0) (eC (.int 4))) (aNil)))))
    (sSeq (sExt 1 (eL (fLc (iSeq (e2S dIx (eVar 0) (eC (.int 3)))) [2, 3] (.tp [.nm 2, .nm 3]) (tT) (e2 dAdd (e2 dAdd (e2 dAdd (eC (.str "after")) (eF m__law_words (aCons (eVar 2) (aNil)))) (eC (.str ":"))) (eF m__law_words (aCons (eVar 3) (aNil)))))))
    (sRet (e2 dJoin (eC (.str "\n")) (eVar 1))))) (sNop))
    (sSeq (sExt 1 (e2 dAdd (eL (fLc (iSeq (e2S dIx (eVar 0) (eC (.int 3)))) [4] (.nm 4) (tT) (e2 dAdd (eC (.str "embed")) (eF m__law_words (aCons (eVar 4) (aNil)))))) (eL (fLc (iSeq (e2S dIx (eVar 0) (eC (.int 4)))) [4] (.nm 4) (tT) (e2 dAdd (eC (.str "place")) (eF m__law_words (aCons (eVar 4) (aNil))))))))
    (sSeq (sFor (iSeq (e2S dIx (eVar 0) (eC (.int 5)))) (.nm 5) (sFor (iZip (eTup (aCons (eC (.str "query")) (aCons (eC (.str "key")) (aCons (eC (.str "worth")) (aCons (eC (.str "mix")) (aNil)))))) (eVar 5)) (.tp [.nm 6, .nm 7]) (sExt 1 (eL (fLc (iSeq (eVar 7)) [4] (.nm 4) (tT) (e2 dAdd (eVar 6) (eF m__law_words (aCons (eVar 4) (aNil)))))))))
    (sRet (e2 dJoin (eC (.str "\n")) (e2 dAdd (eVar 1) (eL (fLc (iSeq (e2S dIx (eVar 0) (eC (.int 6)))) [4] (.nm 4) (tT) (e2 dAdd (eC (.str "out")) (eF m__law_words (aCons (eVar 4) (aNil))))))))))))
def m__law_model_text : List D → M D := runDef 8 1 b__law_model_text
abbrev N__law_model_text : List PySem.Str := [("_law_model" : PySem.Str), ("_law_lines" : PySem.Str), ("_law_last" : PySem.Str), ("_law_weights" : PySem.Str), ("_law_it" : PySem.Str), ("_law_layer" : PySem.Str), ("_law_word" : PySem.Str), ("_law_matrix" : PySem.Str)]
theorem sc__law_model_text : FnScope N__law_model_text [("_law_model" : PySem.Str)] (defScope Hd.s__law_model_text) := ⟨rfl, rfl, rfl, by decide +kernel, rfl, by decide +kernel, by decide +kernel⟩
def b__law_vocabulary_text : SM :=
    sRet (e2 dJoin (eC (.str "\n")) (e2 dAdd (eL (aCons (e2 dAdd (eC (.str "letters ")) (e2S dIx (eVar 0) (eC (.int 1)))) (aNil))) (eL (fLc (iSeq (e2S dIx (eVar 0) (eC (.int 2)))) [1] (.nm 1) (tT) (e2 dAdd (eC (.str "merge")) (eF m__law_words (aCons (eVar 1) (aNil))))))))
def m__law_vocabulary_text : List D → M D := runDef 2 1 b__law_vocabulary_text
abbrev N__law_vocabulary_text : List PySem.Str := [("_law_vocabulary_here" : PySem.Str), ("_law_it" : PySem.Str)]
theorem sc__law_vocabulary_text : FnScope N__law_vocabulary_text [("_law_vocabulary_here" : PySem.Str)] (defScope Hd.s__law_vocabulary_text) := ⟨rfl, rfl, rfl, by decide +kernel, rfl, by decide +kernel, by decide +kernel⟩
def b_law : SM :=
    sSeq (sSet 1 (eF m__law_deck (aCons (eVar 0) (aNil))))
    (sSeq (sFor (iRange (aCons (eC (.int 4)) (aNil))) (.nm 2) (sSeq (sSet 3 (e2 dAdd (eC (.int 2)) (eF m__law_draw (aCons (eVar 1) (aCons (eC (.int 5)) (aNil))))))
    (sSeq (sSet 4 (eIf (tB (e2S dEq (eVar 2) (eC (.int 0)))) (eF m__law_net (aCons (eVar 1) (aCons (eVar 3) (aCons (eC (.int 2)) (aNil))))) (eF m__law_window (aCons (eVar 1) (aCons (eVar 3) (aNil))))))
    (sSeq (sIf (tAnd (tB (e2S dEq (eVar 2) (eC (.int 0)))) (tB (e2S dEq (eF m__law_draw (aCons (eVar 1) (aCons (eC (.int 3)) (aNil)))) (eC (.int 0))))) (sSet 4 (e2 dAdd (e2 dAdd (e3 dSlice (eVar 4) (oNone) (oSome (eC (.int 5)))) (eTup (aCons (eTup (aNil)) (aNil)))) (e3 dSlice (eVar 4) (oSome (eC (.int 6))) (oNone)))) (sNop))
    (sSeq (sSet 5 (eF m__law_model_text (aCons (eVar 4) (aNil))))
    (sSeq (sIf (tB (e2S dNe (eN fRepr (aCons (eTup (aCons (eF m_model_text (aCons (eVar 4) (aNil))) (aCons (eF m_model_text (aCons (eVar 4) (aNil))) (aNil)))) (aNil))) (eN fRepr (aCons (eTup (aCons (eVar 5) (aCons (eVar 5) (aNil)))) (aNil))))) (sRet (eC (.bl false))) (sNop))
    (sSeq (sSet 6 (eF m_read_model (aCons (eVar 5) (aNil))))
    (sSeq (sIf (tOr (tB (e2S dNe (eN fRepr (aCons (eTup (aCons (eVar 6) (aCons (eF m_read_model (aCons (eVar 5) (aNil))) (aNil)))) (aNil))) (eN fRepr (aCons (eTup (aCons (eVar 4) (aCons (eVar 4) (aNil)))) (aNil))))) (tB (e2S dNe (eN fRepr (aCons (eF m_model_text (aCons (eVar 6) (aNil))) (aNil))) (eN fRepr (aCons (eVar 5) (aNil)))))) (sRet (eC (.bl false))) (sNop))
    (sSeq (sSet 7 (eN fTuple (aCons (eL (fLc (iRange (aCons (e2 dAdd (eC (.int 1)) (eF m__law_draw (aCons (eVar 1) (aCons (eC (.int 6)) (aNil))))) (aNil))) [8] (.nm 8) (tT) (eF m__law_draw (aCons (eVar 1) (aCons (eVar 3) (aNil)))))) (aNil))))
    (sSeq (sIf (tB (e2S dNe (eN fRepr (aCons (eF m_model_weights (aCons (eVar 6) (aCons (eVar 7) (aNil)))) (aNil))) (eN fRepr (aCons (e2S dIx (eF m__law_seen (aCons (eVar 4) (aCons (eVar 7) (aNil)))) (eC (.int 1))) (aNil))))) (sRet (eC (.bl false))) (sNop))
    (sSeq (sSet 9 (eF m__law_vocabulary (aCons (eVar 1) (aCons (eVar 3) (aNil)))))
    (sSeq (sSet 5 (eF m__law_vocabulary_text (aCons (eVar 9) (aNil))))
    (sSeq (sIf (tB (e2S dNe (eN fRepr (aCons (eTup (aCons (eF m_vocabulary_text (aCons (eVar 9) (aNil))) (aCons (eF m_vocabulary_text (aCons (eVar 9) (aNil))) (aNil)))) (aNil))) (eN fRepr (aCons (eTup (aCons (eVar 5) (aCons (eVar 5) (aNil)))) (aNil))))) (sRet (eC (.bl false))) (sNop))
    (sSeq (sSet 6 (eF m_read_vocabulary (aCons (eVar 5) (aNil))))
    (sIf (tOr (tB (e2S dNe (eN fRepr (aCons (eTup (aCons (eVar 6) (aCons (eF m_read_vocabulary (aCons (eVar 5) (aNil))) (aNil)))) (aNil))) (eN fRepr (aCons (eTup (aCons (eVar 9) (aCons (eVar 9) (aNil)))) (aNil))))) (tB (e2S dNe (eN fRepr (aCons (eF m_vocabulary_text (aCons (eVar 6) (aNil))) (aNil))) (eN fRepr (aCons (eVar 5) (aNil)))))) (sRet (eC (.bl false))) (sNop))))))))))))))))
    (sRet (eC (.bl true))))
def m_law : List D → M D := runDef 10 1 b_law
abbrev N_law : List PySem.Str := [("_law_script" : PySem.Str), ("_law_deck_here" : PySem.Str), ("_law_turn" : PySem.Str), ("_law_many" : PySem.Str), ("_law_model" : PySem.Str), ("_law_text" : PySem.Str), ("_law_found" : PySem.Str), ("_law_tokens" : PySem.Str), ("_law_at" : PySem.Str), ("_law_vocabulary_here" : PySem.Str)]
theorem sc_law : FnScope N_law [("_law_script" : PySem.Str)] (defScope Hd.s_law) := ⟨rfl, rfl, rfl, by decide +kernel, rfl, by decide +kernel, by decide +kernel⟩
end Wk
end
section
set_option Elab.async false
set_option linter.all false
set_option maxRecDepth 100000
set_option maxHeartbeats 0
namespace Wk
open PySem PySem.Spec PyProof.Rows L2 J

section
variable {P : Program} {w : World} {K : PySem.W.Frag} {mg : PySem.Str → Option Value} {base : Heap}
theorem w_is_integer (C : Cn K mg) {fd : FuncData} {dvs : List V} (F : FunD K "is_integer" "is_integer" (defArgs Hd.s_is_integer) (defBody Hd.s_is_integer) (defScope Hd.s_is_integer) dvs [] (He.ga K "is_integer") fd) : FnOk P w K mg base CX0 1 (He.ga K "is_integer") fd [("thing" : PySem.Str)] (spF K m_is_integer) :=
  ok_def F sc_is_integer fun cdv A outer s H E hr => by
   exact jss_one (js_ret (je_and (je_isi .int C.n_isinstance C.n_int (je_var 0) (hb := bt_isinstance) (hb2 := bt_int)) (je_one (je_not (je_isi .bool C.n_isinstance C.n_bool (je_var 0) (hb := bt_isinstance) (hb2 := bt_bool))))))
theorem w_is_from (C : Cn K mg) (O_is_integer : OkF P w K mg base 1 "is_integer" [("thing" : PySem.Str)] m_is_integer) {fd : FuncData} {dvs : List V} (F : FunD K "is_from" "is_from" (defArgs Hd.s_is_from) (defBody Hd.s_is_from) (defScope Hd.s_is_from) dvs [] (He.ga K "is_from") fd) : FnOk P w K mg base CX0 2 (He.ga K "is_from") fd [("thing" : PySem.Str), ("least" : PySem.Str)] (spF K m_is_from) :=
  ok_def F sc_is_from fun cdv A outer s H E hr => by
   exact jss_one (js_ret (je_and (je_callO O_is_integer hr (by rfl) (ja_cons (je_var 0) (ja_nil))) (je_one (je_cmp op_ge ref_ge (je_var 0) (je_var 1) (by rfl)))))
theorem w_are_letters (C : Cn K mg) {fd : FuncData} {dvs : List V} (F : FunD K "are_letters" "are_letters" (defArgs Hd.s_are_letters) (defBody Hd.s_are_letters) (defScope Hd.s_are_letters) dvs [] (He.ga K "are_letters") fd) : FnOk P w K mg base CX0 1 (He.ga K "are_letters") fd [("thing" : PySem.Str)] (spF K m_are_letters) :=
  ok_def F sc_are_letters fun cdv A outer s H E hr => by
   exact jss_cons (js_if (jt_w (jw_or (jt_not (jt_val (je_isi .str C.n_isinstance C.n_str (je_var 0) (hb := bt_isinstance) (hb2 := bt_str)))) (jw_or1 (jt_not (jt_chain op_le op_le ref_le ref_le (je_int) (je_callB call_lenJ ref_len (by rfl) C.n_len bt_len (ja_cons (je_var 0) (ja_nil))) (je_gint (by rfl) C.c_MOST_LETTERS)))))) (jss_one (js_ret (je_bl))) (jss_nil))
    (jss_one (js_ret (je_and (je_callB (cr_all rfl) ref_all (by rfl) C.n_all bt_all (ja_cons (je_L (jf_lc (own := [(("sign" : PySem.Str), 1)]) rfl sc_are_letters.nd (blkOk_by (N := N_are_letters) (sc := defScope Hd.s_are_letters) (own := [(("sign" : PySem.Str), 1)]) (by decide +kernel)) (ji_seq (je_var 0)) (fun _ _ _ _ _ => jg_nm 1 sc_are_letters.nd rfl (by first | exact Or.inl rfl | exact Or.inr rfl)) (fun _ _ _ _ _ => jts_nil) (fun _ _ _ _ _ => je_cmp op_inJ ref_in (je_var 1) (je_gstr (by rfl) C.c_SMALL) (by rfl)) (by decide))) (ja_nil))) (je_one (je_cmpS (op_eqJ hr.units) ref_eq (je_lenSet rfl C.n_len C.n_set (je_var 0)) (je_callB call_lenJ ref_len (by rfl) C.n_len bt_len (ja_cons (je_var 0) (ja_nil))) (by rfl))))))
theorem w_is_pair_below (C : Cn K mg) (O_is_from : OkF P w K mg base 2 "is_from" [("thing" : PySem.Str), ("least" : PySem.Str)] m_is_from) {fd : FuncData} {dvs : List V} (F : FunD K "is_pair_below" "is_pair_below" (defArgs Hd.s_is_pair_below) (defBody Hd.s_is_pair_below) (defScope Hd.s_is_pair_below) dvs [] (He.ga K "is_pair_below") fd) : FnOk P w K mg base CX0 3 (He.ga K "is_pair_below") fd [("thing" : PySem.Str), ("most" : PySem.Str)] (spF K m_is_pair_below) :=
  ok_def F sc_is_pair_below fun cdv A outer s H E hr => by
   exact jss_cons (js_if (jt_w (jw_or (jt_not (jt_val (je_isi .tuple C.n_isinstance C.n_tuple (je_var 0) (hb := bt_isinstance) (hb2 := bt_tuple)))) (jw_or1 (jt_cmpS (op_neJ hr.units) ref_ne (je_callB call_lenJ ref_len (by rfl) C.n_len bt_len (ja_cons (je_var 0) (ja_nil))) (je_int) (by rfl))))) (jss_one (js_ret (je_bl))) (jss_nil))
    (jss_one (js_ret (je_callB (cr_all rfl) ref_all (by rfl) C.n_all bt_all (ja_cons (je_L (jf_lc (own := [(("item" : PySem.Str), 2)]) rfl sc_is_pair_below.nd (blkOk_by (N := N_is_pair_below) (sc := defScope Hd.s_is_pair_below) (own := [(("item" : PySem.Str), 2)]) (by decide +kernel)) (ji_seq (je_var 0)) (fun _ _ _ _ _ => jg_nm 2 sc_is_pair_below.nd rfl (by first | exact Or.inl rfl | exact Or.inr rfl)) (fun _ _ _ _ _ => jts_nil) (fun _ _ _ _ _ => je_and (je_callO O_is_from hr (by rfl) (ja_cons (je_var 2) (ja_cons (je_int) (ja_nil)))) (je_one (je_cmp (op_ltJ hr.units0) ref_lt (je_var 2) (je_var 1) (by rfl)))) (by decide))) (ja_nil)))))
theorem w_size_raw (C : Cn K mg) {fd : FuncData} {dvs : List V} (F : FunD K "size_raw" "size_raw" (defArgs Hd.s_size_raw) (defBody Hd.s_size_raw) (defScope Hd.s_size_raw) dvs [] (He.ga K "size_raw") fd) : FnOk P w K mg base CX0 1 (He.ga K "size_raw") fd [("vocabulary" : PySem.Str)] (spF K m_size_raw) :=
  ok_def F sc_size_raw fun cdv A outer s H E hr => by
   exact jss_one (js_ret (je_op op_addJ ref_add (je_op op_addJ ref_add (je_int) (je_callB call_lenJ ref_len (by rfl) C.n_len bt_len (ja_cons (je_ixS (ix_J hr.units) ref_ix (je_var 0) (je_int) (fun _ _ => rfl)) (ja_nil)))) (je_callB call_lenJ ref_len (by rfl) C.n_len bt_len (ja_cons (je_ixS (ix_J hr.units) ref_ix (je_var 0) (je_int) (fun _ _ => rfl)) (ja_nil)))))
theorem w_pieces_of (C : Cn K mg) {fd : FuncData} {dvs : List V} (F : FunD K "pieces_of" "pieces_of" (defArgs Hd.s_pieces_of) (defBody Hd.s_pieces_of) (defScope Hd.s_pieces_of) dvs [] (He.ga K "pieces_of") fd) : FnOk P w K mg base CX0 1 (He.ga K "pieces_of") fd [("vocabulary" : PySem.Str)] (spF K m_pieces_of) :=
  ok_def F sc_pieces_of fun cdv A outer s H E hr => by
   exact jss_cons (js_own 1 sc_pieces_of.nd rfl (by first | exact Or.inl rfl | exact Or.inr rfl) (jf_op op_addJ ref_cat (je_L (jf_lst (ja_cons (je_str) (ja_nil)) (len_cons len_nil) (by decide))) (je_callTy (call_listJ rfl) ref_list (by rfl) C.n_list bt_list (ja_cons (je_ixS (ix_J hr.units) ref_ix (je_var 0) (je_int) (fun _ _ => rfl)) (ja_nil)))))
    (jss_cons (js_for PassesOwn.never rfl (ji_seq (je_ixS (ix_J hr.units) ref_ix (je_var 0) (je_int) (fun _ _ => rfl))) (jg_tp rfl (jgs_cons (jg_nm 2 sc_pieces_of.nd rfl (by first | exact Or.inl rfl | exact Or.inr rfl)) (jgs_cons (jg_nm 3 sc_pieces_of.nd rfl (by first | exact Or.inl rfl | exact Or.inr rfl)) (jgs_nil)))) (jss_one (js_appF 1 rfl (by first | exact Or.inl rfl | exact Or.inr (Or.inl rfl) | exact Or.inr (Or.inr rfl)) (je_op op_addJ ref_add (je_ixS (ix_J hr.units) ref_ix (je_var 1) (je_var 2) (fun _ _ => rfl)) (je_ixS (ix_J hr.units) ref_ix (je_var 1) (je_var 3) (fun _ _ => rfl))))))
    (jss_one (js_ret (je_var 1))))
theorem w_is_vocabulary_value (C : Cn K mg) (O_size_raw : OkF P w K mg base 1 "size_raw" [("vocabulary" : PySem.Str)] m_size_raw) (O_are_letters : OkF P w K mg base 1 "are_letters" [("thing" : PySem.Str)] m_are_letters) (O_is_pair_below : OkF P w K mg base 3 "is_pair_below" [("thing" : PySem.Str), ("most" : PySem.Str)] m_is_pair_below) (O_pieces_of : OkF P w K mg base 1 "pieces_of" [("vocabulary" : PySem.Str)] m_pieces_of) {fd : FuncData} {dvs : List V} (F : FunD K "is_vocabulary_value" "is_vocabulary_value" (defArgs Hd.s_is_vocabulary_value) (defBody Hd.s_is_vocabulary_value) (defScope Hd.s_is_vocabulary_value) dvs [] (He.ga K "is_vocabulary_value") fd) : FnOk P w K mg base CX0 4 (He.ga K "is_vocabulary_value") fd [("thing" : PySem.Str)] (spF K m_is_vocabulary_value) :=
  ok_def F sc_is_vocabulary_value fun cdv A outer s H E hr => by
   exact jss_cons (js_if (jt_w (jw_or (jt_not (jt_val (je_isi .tuple C.n_isinstance C.n_tuple (je_var 0) (hb := bt_isinstance) (hb2 := bt_tuple)))) (jw_or (jt_cmpS (op_neJ hr.units) ref_ne (je_callB call_lenJ ref_len (by rfl) C.n_len bt_len (ja_cons (je_var 0) (ja_nil))) (je_int) (by rfl)) (jw_or (jt_not (jt_val (je_isi .str C.n_isinstance C.n_str (je_ixS (ix_J hr.units) ref_ix (je_var 0) (je_int) (fun _ _ => rfl)) (hb := bt_isinstance) (hb2 := bt_str)))) (jw_or1 (jt_cmpS (op_neJ hr.units) ref_ne (je_ixS (ix_J hr.units) ref_ix (je_var 0) (je_int) (fun _ _ => rfl)) (je_gstr (by rfl) C.c_VOCABULARY) (by rfl))))))) (jss_one (js_ret (je_bl))) (jss_nil))
    (jss_cons (js_par 1 2 rfl sc_is_vocabulary_value.nd rfl rfl (by decide) rfl rfl (je_ixS (ix_J hr.units) ref_ix (je_var 0) (je_int) (fun _ _ => rfl)) (je_ixS (ix_J hr.units) ref_ix (je_var 0) (je_int) (fun _ _ => rfl)) (by rfl))
    (jss_cons (js_if (jt_w (jw_or (jt_not (jt_val (je_callO O_are_letters (hr.mono (by decide)) (by rfl) (ja_cons (je_var 1) (ja_nil))))) (jw_or (jt_not (jt_val (je_isi .tuple C.n_isinstance C.n_tuple (je_var 2) (hb := bt_isinstance) (hb2 := bt_tuple)))) (jw_or1 (jt_cmp op_gt ref_gt (je_callB call_lenJ ref_len (by rfl) C.n_len bt_len (ja_cons (je_var 2) (ja_nil))) (je_gint (by rfl) C.c_MOST_MERGES) (by rfl)))))) (jss_one (js_ret (je_bl))) (jss_nil))
    (jss_cons (js_for PassesOwn.never rfl (ji_enum (by rfl) C.n_enumerate (je_var 2)) (jg_tp rfl (jgs_cons (jg_nm 3 sc_is_vocabulary_value.nd rfl (by first | exact Or.inl rfl | exact Or.inr rfl)) (jgs_cons (jg_nm 4 sc_is_vocabulary_value.nd rfl (by first | exact Or.inl rfl | exact Or.inr rfl)) (jgs_nil)))) (jss_one (js_if (jt_not (jt_val (je_callO O_is_pair_below hr (by rfl) (ja_cons (je_var 4) (ja_cons (je_op op_addJ ref_add (je_op op_addJ ref_add (je_int) (je_callB call_lenJ ref_len (by rfl) C.n_len bt_len (ja_cons (je_var 1) (ja_nil)))) (je_var 3)) (ja_nil)))))) (jss_one (js_ret (je_bl))) (jss_nil))))
    (jss_one (js_ret (je_cmpS (op_eqJ hr.units) ref_eq (je_lenSet rfl C.n_len C.n_set (je_callO O_pieces_of (hr.mono (by decide)) (by rfl) (ja_cons (je_var 0) (ja_nil)))) (je_callO O_size_raw (hr.mono (by decide)) (by rfl) (ja_cons (je_var 0) (ja_nil))) (by rfl)))))))
theorem w_need_vocabulary (C : Cn K mg) (O_is_vocabulary_value : OkF P w K mg base 4 "is_vocabulary_value" [("thing" : PySem.Str)] m_is_vocabulary_value) {fd : FuncData} {dvs : List V} (F : FunD K "need_vocabulary" "need_vocabulary" (defArgs Hd.s_need_vocabulary) (defBody Hd.s_need_vocabulary) (defScope Hd.s_need_vocabulary) dvs [] (He.ga K "need_vocabulary") fd) : FnOk P w K mg base CX0 5 (He.ga K "need_vocabulary") fd [("thing" : PySem.Str)] (spF K m_need_vocabulary) :=
  ok_def F sc_need_vocabulary fun cdv A outer s H E hr => by
   exact jss_one (js_if (jt_not (jt_val (je_callO O_is_vocabulary_value hr (by rfl) (ja_cons (je_var 0) (ja_nil))))) (jss_one (js_never)) (jss_nil))
theorem w_are_tokens_below (C : Cn K mg) (O_is_from : OkF P w K mg base 2 "is_from" [("thing" : PySem.Str), ("least" : PySem.Str)] m_is_from) {fd : FuncData} {dvs : List V} (F : FunD K "are_tokens_below" "are_tokens_below" (defArgs Hd.s_are_tokens_below) (defBody Hd.s_are_tokens_below) (defScope Hd.s_are_tokens_below) dvs [] (He.ga K "are_tokens_below") fd) : FnOk P w K mg base CX0 3 (He.ga K "are_tokens_below") fd [("thing" : PySem.Str), ("many" : PySem.Str)] (spF K m_are_tokens_below) :=
  ok_def F sc_are_tokens_below fun cdv A outer s H E hr => by
   exact jss_one (js_ret (je_and (je_isi .tuple C.n_isinstance C.n_tuple (je_var 0) (hb := bt_isinstance) (hb2 := bt_tuple)) (je_one (je_callB (cr_all rfl) ref_all (by rfl) C.n_all bt_all (ja_cons (je_L (jf_lc (own := [(("item" : PySem.Str), 2)]) rfl sc_are_tokens_below.nd (blkOk_by (N := N_are_tokens_below) (sc := defScope Hd.s_are_tokens_below) (own := [(("item" : PySem.Str), 2)]) (by decide +kernel)) (ji_seq (je_var 0)) (fun _ _ _ _ _ => jg_nm 2 sc_are_tokens_below.nd rfl (by first | exact Or.inl rfl | exact Or.inr rfl)) (fun _ _ _ _ _ => jts_nil) (fun _ _ _ _ _ => je_and (je_callO O_is_from hr (by rfl) (ja_cons (je_var 2) (ja_cons (je_int) (ja_nil)))) (je_one (je_cmp (op_ltJ hr.units0) ref_lt (je_var 2) (je_var 1) (by rfl)))) (by decide))) (ja_nil))))))
theorem w_are_weights (C : Cn K mg) (O_is_from : OkF P w K mg base 2 "is_from" [("thing" : PySem.Str), ("least" : PySem.Str)] m_is_from) {fd : FuncData} {dvs : List V} (F : FunD K "are_weights" "are_weights" (defArgs Hd.s_are_weights) (defBody Hd.s_are_weights) (defScope Hd.s_are_weights) dvs [] (He.ga K "are_weights") fd) : FnOk P w K mg base CX0 3 (He.ga K "are_weights") fd [("thing" : PySem.Str), ("many" : PySem.Str)] (spF K m_are_weights) :=
  ok_def F sc_are_weights fun cdv A outer s H E hr => by
   exact jss_cons (js_if (jt_w (jw_or (jt_not (jt_val (je_isi .tuple C.n_isinstance C.n_tuple (je_var 0) (hb := bt_isinstance) (hb2 := bt_tuple)))) (jw_or (jt_cmpS (op_neJ hr.units) ref_ne (je_callB call_lenJ ref_len (by rfl) C.n_len bt_len (ja_cons (je_var 0) (ja_nil))) (je_var 1) (by rfl)) (jw_or1 (jt_not (jt_val (je_callB (cr_all rfl) ref_all (by rfl) C.n_all bt_all (ja_cons (je_L (jf_lc (own := [(("item" : PySem.Str), 2)]) rfl sc_are_weights.nd (blkOk_by (N := N_are_weights) (sc := defScope Hd.s_are_weights) (own := [(("item" : PySem.Str), 2)]) (by decide +kernel)) (ji_seq (je_var 0)) (fun _ _ _ _ _ => jg_nm 2 sc_are_weights.nd rfl (by first | exact Or.inl rfl | exact Or.inr rfl)) (fun _ _ _ _ _ => jts_nil) (fun _ _ _ _ _ => je_callO O_is_from hr (by rfl) (ja_cons (je_var 2) (ja_cons (je_int) (ja_nil)))) (by decide))) (ja_nil))))))))) (jss_one (js_ret (je_bl))) (jss_nil))
    (jss_one (js_ret (je_cmp op_ge ref_ge (je_callB (call_sumJ rfl) ref_sum (by rfl) C.n_sum bt_sum (ja_cons (je_var 0) (ja_nil))) (je_int) (by rfl))))
theorem w_is_entry (C : Cn K mg) (O_are_weights : OkF P w K mg base 3 "are_weights" [("thing" : PySem.Str), ("many" : PySem.Str)] m_are_weights) (O_are_tokens_below : OkF P w K mg base 3 "are_tokens_below" [("thing" : PySem.Str), ("many" : PySem.Str)] m_are_tokens_below) {fd : FuncData} {dvs : List V} (F : FunD K "is_entry" "is_entry" (defArgs Hd.s_is_entry) (defBody Hd.s_is_entry) (defScope Hd.s_is_entry) dvs [] (He.ga K "is_entry") fd) : FnOk P w K mg base CX0 4 (He.ga K "is_entry") fd [("thing" : PySem.Str), ("many" : PySem.Str), ("k" : PySem.Str)] (spF K m_is_entry) :=
  ok_def F sc_is_entry fun cdv A outer s H E hr => by
   exact jss_cons (js_if (jt_w (jw_or (jt_not (jt_val (je_isi .tuple C.n_isinstance C.n_tuple (je_var 0) (hb := bt_isinstance) (hb2 := bt_tuple)))) (jw_or (jt_cmpS (op_neJ hr.units) ref_ne (je_callB call_lenJ ref_len (by rfl) C.n_len bt_len (ja_cons (je_var 0) (ja_nil))) (je_int) (by rfl)) (jw_or1 (jt_not (jt_val (je_callO O_are_tokens_below hr (by rfl) (ja_cons (je_ixS (ix_J hr.units) ref_ix (je_var 0) (je_int) (fun _ _ => rfl)) (ja_cons (je_var 1) (ja_nil)))))))))) (jss_one (js_ret (je_bl))) (jss_nil))
    (jss_one (js_ret (je_and (je_cmp op_le ref_le (je_callB call_lenJ ref_len (by rfl) C.n_len bt_len (ja_cons (je_ixS (ix_J hr.units) ref_ix (je_var 0) (je_int) (fun _ _ => rfl)) (ja_nil))) (je_var 2) (by rfl)) (je_one (je_callO O_are_weights hr (by rfl) (ja_cons (je_ixS (ix_J hr.units) ref_ix (je_var 0) (je_int) (fun _ _ => rfl)) (ja_cons (je_var 1) (ja_nil))))))))
theorem w_is_window (C : Cn K mg) (O_is_from : OkF P w K mg base 2 "is_from" [("thing" : PySem.Str), ("least" : PySem.Str)] m_is_from) (O_are_weights : OkF P w K mg base 3 "are_weights" [("thing" : PySem.Str), ("many" : PySem.Str)] m_are_weights) (O_is_entry : OkF P w K mg base 4 "is_entry" [("thing" : PySem.Str), ("many" : PySem.Str), ("k" : PySem.Str)] m_is_entry) {fd : FuncData} {dvs : List V} (F : FunD K "is_window" "is_window" (defArgs Hd.s_is_window) (defBody Hd.s_is_window) (defScope Hd.s_is_window) dvs [] (He.ga K "is_window") fd) : FnOk P w K mg base CX0 5 (He.ga K "is_window") fd [("thing" : PySem.Str)] (spF K m_is_window) :=
  ok_def F sc_is_window fun cdv A outer s H E hr => by
   exact jss_cons (js_if (jt_w (jw_or (jt_cmpS (op_neJ hr.units) ref_ne (je_callB call_lenJ ref_len (by rfl) C.n_len bt_len (ja_cons (je_var 0) (ja_nil))) (je_int) (by rfl)) (jw_or (jt_not (jt_val (je_callO O_is_from (hr.mono (by decide)) (by rfl) (ja_cons (je_ixS (ix_J hr.units) ref_ix (je_var 0) (je_int) (fun _ _ => rfl)) (ja_cons (je_int) (ja_nil)))))) (jw_or (jt_not (jt_val (je_callO O_is_from (hr.mono (by decide)) (by rfl) (ja_cons (je_ixS (ix_J hr.units) ref_ix (je_var 0) (je_int) (fun _ _ => rfl)) (ja_cons (je_int) (ja_nil)))))) (jw_or1 (jt_not (jt_val (je_isi .tuple C.n_isinstance C.n_tuple (je_ixS (ix_J hr.units) ref_ix (je_var 0) (je_int) (fun _ _ => rfl)) (hb := bt_isinstance) (hb2 := bt_tuple))))))))) (jss_one (js_ret (je_bl))) (jss_nil))
    (jss_cons (js_if (jt_w (jw_or (jt_not (jt_val (je_callO O_are_weights (hr.mono (by decide)) (by rfl) (ja_cons (je_ixS (ix_J hr.units) ref_ix (je_var 0) (je_int) (fun _ _ => rfl)) (ja_cons (je_ixS (ix_J hr.units) ref_ix (je_var 0) (je_int) (fun _ _ => rfl)) (ja_nil)))))) (jw_or1 (jt_not (jt_val (je_callB (cr_all rfl) ref_all (by rfl) C.n_all bt_all (ja_cons (je_L (jf_lc (own := [(("entry" : PySem.Str), 1)]) rfl sc_is_window.nd (blkOk_by (N := N_is_window) (sc := defScope Hd.s_is_window) (own := [(("entry" : PySem.Str), 1)]) (by decide +kernel)) (ji_seq (je_ixS (ix_J hr.units) ref_ix (je_var 0) (je_int) (fun _ _ => rfl))) (fun _ _ _ _ _ => jg_nm 1 sc_is_window.nd rfl (by first | exact Or.inl rfl | exact Or.inr rfl)) (fun _ _ _ _ _ => jts_nil) (fun _ _ _ _ _ => je_callO O_is_entry hr (by rfl) (ja_cons (je_var 1) (ja_cons (je_ixS (ix_J hr.units) ref_ix (je_var 0) (je_int) (fun _ _ => rfl)) (ja_cons (je_ixS (ix_J hr.units) ref_ix (je_var 0) (je_int) (fun _ _ => rfl)) (ja_nil))))) (by decide))) (ja_nil)))))))) (jss_one (js_ret (je_bl))) (jss_nil))
    (jss_one (js_ret (je_callB (cr_all rfl) ref_all (by rfl) C.n_all bt_all (ja_cons (je_L (jf_lc (own := [(("one" : PySem.Str), 2), (("other" : PySem.Str), 3)]) rfl sc_is_window.nd (blkOk_by (N := N_is_window) (sc := defScope Hd.s_is_window) (own := [(("one" : PySem.Str), 2), (("other" : PySem.Str), 3)]) (by decide +kernel)) (ji_zip (by rfl) C.n_zip (je_ixS (ix_J hr.units) ref_ix (je_var 0) (je_int) (fun _ _ => rfl)) (je_slice sl_J ref_slice (je_ixS (ix_J hr.units) ref_ix (je_var 0) (je_int) (fun _ _ => rfl)) (jo_some (je_int)) (jo_none))) (fun _ _ _ _ _ => jg_tp rfl (jgs_cons (jg_nm 2 sc_is_window.nd rfl (by first | exact Or.inl rfl | exact Or.inr rfl)) (jgs_cons (jg_nm 3 sc_is_window.nd rfl (by first | exact Or.inl rfl | exact Or.inr rfl)) (jgs_nil)))) (fun _ _ _ _ _ => jts_nil) (fun _ _ _ _ _ => je_cmp (op_ltJ hr.units0) ref_lt (je_ixS (ix_J hr.units) ref_ix (je_var 2) (je_int) (fun _ _ => rfl)) (je_ixS (ix_J hr.units) ref_ix (je_var 3) (je_int) (fun _ _ => rfl)) (by rfl)) (by decide))) (ja_nil))))))
theorem w_is_vector (C : Cn K mg) (O_is_integer : OkF P w K mg base 1 "is_integer" [("thing" : PySem.Str)] m_is_integer) {fd : FuncData} {dvs : List V} (F : FunD K "is_vector" "is_vector" (defArgs Hd.s_is_vector) (defBody Hd.s_is_vector) (defScope Hd.s_is_vector) dvs [] (He.ga K "is_vector") fd) : FnOk P w K mg base CX0 2 (He.ga K "is_vector") fd [("thing" : PySem.Str), ("d" : PySem.Str)] (spF K m_is_vector) :=
  ok_def F sc_is_vector fun cdv A outer s H E hr => by
   exact jss_one (js_ret (je_and (je_isi .tuple C.n_isinstance C.n_tuple (je_var 0) (hb := bt_isinstance) (hb2 := bt_tuple)) (je_and (je_cmpS (op_eqJ hr.units) ref_eq (je_callB call_lenJ ref_len (by rfl) C.n_len bt_len (ja_cons (je_var 0) (ja_nil))) (je_var 1) (by rfl)) (je_one (je_callB (cr_all rfl) ref_all (by rfl) C.n_all bt_all (ja_cons (je_L (jf_lc (own := [(("item" : PySem.Str), 2)]) rfl sc_is_vector.nd (blkOk_by (N := N_is_vector) (sc := defScope Hd.s_is_vector) (own := [(("item" : PySem.Str), 2)]) (by decide +kernel)) (ji_seq (je_var 0)) (fun _ _ _ _ _ => jg_nm 2 sc_is_vector.nd rfl (by first | exact Or.inl rfl | exact Or.inr rfl)) (fun _ _ _ _ _ => jts_nil) (fun _ _ _ _ _ => je_callO O_is_integer hr (by rfl) (ja_cons (je_var 2) (ja_nil))) (by decide))) (ja_nil)))))))
theorem w_are_vectors (C : Cn K mg) (O_is_vector : OkF P w K mg base 2 "is_vector" [("thing" : PySem.Str), ("d" : PySem.Str)] m_is_vector) {fd : FuncData} {dvs : List V} (F : FunD K "are_vectors" "are_vectors" (defArgs Hd.s_are_vectors) (defBody Hd.s_are_vectors) (defScope Hd.s_are_vectors) dvs [] (He.ga K "are_vectors") fd) : FnOk P w K mg base CX0 3 (He.ga K "are_vectors") fd [("thing" : PySem.Str), ("d" : PySem.Str)] (spF K m_are_vectors) :=
  ok_def F sc_are_vectors fun cdv A outer s H E hr => by
   exact jss_one (js_ret (je_and (je_isi .tuple C.n_isinstance C.n_tuple (je_var 0) (hb := bt_isinstance) (hb2 := bt_tuple)) (je_one (je_callB (cr_all rfl) ref_all (by rfl) C.n_all bt_all (ja_cons (je_L (jf_lc (own := [(("item" : PySem.Str), 2)]) rfl sc_are_vectors.nd (blkOk_by (N := N_are_vectors) (sc := defScope Hd.s_are_vectors) (own := [(("item" : PySem.Str), 2)]) (by decide +kernel)) (ji_seq (je_var 0)) (fun _ _ _ _ _ => jg_nm 2 sc_are_vectors.nd rfl (by first | exact Or.inl rfl | exact Or.inr rfl)) (fun _ _ _ _ _ => jts_nil) (fun _ _ _ _ _ => je_callO O_is_vector hr (by rfl) (ja_cons (je_var 2) (ja_cons (je_var 1) (ja_nil)))) (by decide))) (ja_nil))))))
theorem w_is_layer (C : Cn K mg) (O_are_vectors : OkF P w K mg base 3 "are_vectors" [("thing" : PySem.Str), ("d" : PySem.Str)] m_are_vectors) {fd : FuncData} {dvs : List V} (F : FunD K "is_layer" "is_layer" (defArgs Hd.s_is_layer) (defBody Hd.s_is_layer) (defScope Hd.s_is_layer) dvs [] (He.ga K "is_layer") fd) : FnOk P w K mg base CX0 4 (He.ga K "is_layer") fd [("thing" : PySem.Str), ("d" : PySem.Str)] (spF K m_is_layer) :=
  ok_def F sc_is_layer fun cdv A outer s H E hr => by
   exact jss_cons (js_if (jt_w (jw_or (jt_not (jt_val (je_isi .tuple C.n_isinstance C.n_tuple (je_var 0) (hb := bt_isinstance) (hb2 := bt_tuple)))) (jw_or1 (jt_cmpS (op_neJ hr.units) ref_ne (je_callB call_lenJ ref_len (by rfl) C.n_len bt_len (ja_cons (je_var 0) (ja_nil))) (je_int) (by rfl))))) (jss_one (js_ret (je_bl))) (jss_nil))
    (jss_one (js_ret (je_callB (cr_all rfl) ref_all (by rfl) C.n_all bt_all (ja_cons (je_L (jf_lc (own := [(("matrix" : PySem.Str), 2)]) rfl sc_is_layer.nd (blkOk_by (N := N_is_layer) (sc := defScope Hd.s_is_layer) (own := [(("matrix" : PySem.Str), 2)]) (by decide +kernel)) (ji_seq (je_var 0)) (fun _ _ _ _ _ => jg_nm 2 sc_is_layer.nd rfl (by first | exact Or.inl rfl | exact Or.inr rfl)) (fun _ _ _ _ _ => jts_nil) (fun _ _ _ _ _ => je_and (je_callO O_are_vectors hr (by rfl) (ja_cons (je_var 2) (ja_cons (je_var 1) (ja_nil)))) (je_one (je_cmpS (op_eqJ hr.units) ref_eq (je_callB call_lenJ ref_len (by rfl) C.n_len bt_len (ja_cons (je_var 2) (ja_nil))) (je_var 1) (by rfl)))) (by decide))) (ja_nil)))))
theorem w_is_net (C : Cn K mg) (O_is_from : OkF P w K mg base 2 "is_from" [("thing" : PySem.Str), ("least" : PySem.Str)] m_is_from) (O_is_layer : OkF P w K mg base 4 "is_layer" [("thing" : PySem.Str), ("d" : PySem.Str)] m_is_layer) (O_are_vectors : OkF P w K mg base 3 "are_vectors" [("thing" : PySem.Str), ("d" : PySem.Str)] m_are_vectors) {fd : FuncData} {dvs : List V} (F : FunD K "is_net" "is_net" (defArgs Hd.s_is_net) (defBody Hd.s_is_net) (defScope Hd.s_is_net) dvs [] (He.ga K "is_net") fd) : FnOk P w K mg base CX0 5 (He.ga K "is_net") fd [("thing" : PySem.Str)] (spF K m_is_net) :=
  ok_def F sc_is_net fun cdv A outer s H E hr => by
   exact jss_cons (js_if (jt_w (jw_or (jt_cmpS (op_neJ hr.units) ref_ne (je_callB call_lenJ ref_len (by rfl) C.n_len bt_len (ja_cons (je_var 0) (ja_nil))) (je_int) (by rfl)) (jw_or (jt_not (jt_val (je_callO O_is_from (hr.mono (by decide)) (by rfl) (ja_cons (je_ixS (ix_J hr.units) ref_ix (je_var 0) (je_int) (fun _ _ => rfl)) (ja_cons (je_int) (ja_nil)))))) (jw_or1 (jt_not (jt_val (je_callO O_is_from (hr.mono (by decide)) (by rfl) (ja_cons (je_ixS (ix_J hr.units) ref_ix (je_var 0) (je_int) (fun _ _ => rfl)) (ja_cons (je_int) (ja_nil)))))))))) (jss_one (js_ret (je_bl))) (jss_nil))
    (jss_cons (js_asg (je_tup (ja_cons (je_ixS (ix_J hr.units) ref_ix (je_var 0) (je_int) (fun _ _ => rfl)) (ja_cons (je_ixS (ix_J hr.units) ref_ix (je_var 0) (je_int) (fun _ _ => rfl)) (ja_nil))) (len_cons (len_cons len_nil)) (by decide)) (jg_tp rfl (jgs_cons (jg_nm 1 sc_is_net.nd rfl (by first | exact Or.inl rfl | exact Or.inr rfl)) (jgs_cons (jg_nm 2 sc_is_net.nd rfl (by first | exact Or.inl rfl | exact Or.inr rfl)) (jgs_nil)))))
    (jss_cons (js_if (jt_w (jw_or (jt_not (jt_val (je_callB (cr_all rfl) ref_all (by rfl) C.n_all bt_all (ja_cons (je_L (jf_lc (own := [(("at" : PySem.Str), 3)]) rfl sc_is_net.nd (blkOk_by (N := N_is_net) (sc := defScope Hd.s_is_net) (own := [(("at" : PySem.Str), 3)]) (by decide +kernel)) (ji_seq (je_tup (ja_cons (je_int) (ja_cons (je_int) (ja_cons (je_int) (ja_nil)))) (len_cons (len_cons (len_cons len_nil))) (by decide))) (fun _ _ _ _ _ => jg_nm 3 sc_is_net.nd rfl (by first | exact Or.inl rfl | exact Or.inr rfl)) (fun _ _ _ _ _ => jts_nil) (fun _ _ _ _ _ => je_callO O_are_vectors (hr.mono (by decide)) (by rfl) (ja_cons (je_ixS (ix_J hr.units) ref_ix (je_var 0) (je_var 3) (fun _ _ => rfl)) (ja_cons (je_var 2) (ja_nil)))) (by decide))) (ja_nil))))) (jw_or1 (jt_cmpS (op_eqJ hr.units) ref_eq (je_ixS (ix_J hr.units) ref_ix (je_var 0) (je_int) (fun _ _ => rfl)) (je_tup (ja_nil) len_nil (by decide)) (by rfl))))) (jss_one (js_ret (je_bl))) (jss_nil))
    (jss_cons (js_if (jt_w (jw_or (jt_cmpS (op_neJ hr.units) ref_ne (je_callB call_lenJ ref_len (by rfl) C.n_len bt_len (ja_cons (je_ixS (ix_J hr.units) ref_ix (je_var 0) (je_int) (fun _ _ => rfl)) (ja_nil))) (je_var 1) (by rfl)) (jw_or (jt_cmpS (op_neJ hr.units) ref_ne (je_callB call_lenJ ref_len (by rfl) C.n_len bt_len (ja_cons (je_ixS (ix_J hr.units) ref_ix (je_var 0) (je_int) (fun _ _ => rfl)) (ja_nil))) (je_var 1) (by rfl)) (jw_or1 (jt_not (jt_val (je_isi .tuple C.n_isinstance C.n_tuple (je_ixS (ix_J hr.units) ref_ix (je_var 0) (je_int) (fun _ _ => rfl)) (hb := bt_isinstance) (hb2 := bt_tuple)))))))) (jss_one (js_ret (je_bl))) (jss_nil))
    (jss_one (js_ret (je_callB (cr_all rfl) ref_all (by rfl) C.n_all bt_all (ja_cons (je_L (jf_lc (own := [(("layer" : PySem.Str), 4)]) rfl sc_is_net.nd (blkOk_by (N := N_is_net) (sc := defScope Hd.s_is_net) (own := [(("layer" : PySem.Str), 4)]) (by decide +kernel)) (ji_seq (je_ixS (ix_J hr.units) ref_ix (je_var 0) (je_int) (fun _ _ => rfl))) (fun _ _ _ _ _ => jg_nm 4 sc_is_net.nd rfl (by first | exact Or.inl rfl | exact Or.inr rfl)) (fun _ _ _ _ _ => jts_nil) (fun _ _ _ _ _ => je_callO O_is_layer hr (by rfl) (ja_cons (je_var 4) (ja_cons (je_var 2) (ja_nil)))) (by decide))) (ja_nil))))))))
theorem w_is_model_value (C : Cn K mg) (O_is_window : OkF P w K mg base 5 "is_window" [("thing" : PySem.Str)] m_is_window) (O_is_net : OkF P w K mg base 5 "is_net" [("thing" : PySem.Str)] m_is_net) {fd : FuncData} {dvs : List V} (F : FunD K "is_model_value" "is_model_value" (defArgs Hd.s_is_model_value) (defBody Hd.s_is_model_value) (defScope Hd.s_is_model_value) dvs [] (He.ga K "is_model_value") fd) : FnOk P w K mg base CX0 6 (He.ga K "is_model_value") fd [("thing" : PySem.Str)] (spF K m_is_model_value) :=
  ok_def F sc_is_model_value fun cdv A outer s H E hr => by
   exact jss_cons (js_if (jt_w (jw_or (jt_not (jt_val (je_isi .tuple C.n_isinstance C.n_tuple (je_var 0) (hb := bt_isinstance) (hb2 := bt_tuple)))) (jw_or (jt_cmpS (op_eqJ hr.units) ref_eq (je_var 0) (je_tup (ja_nil) len_nil (by decide)) (by rfl)) (jw_or1 (jt_not (jt_val (je_isi .str C.n_isinstance C.n_str (je_ixS (ix_J hr.units) ref_ix (je_var 0) (je_int) (fun _ _ => rfl)) (hb := bt_isinstance) (hb2 := bt_str)))))))) (jss_one (js_ret (je_bl))) (jss_nil))
    (jss_one (js_ret (je_if (jt_cmpS (op_eqJ hr.units) ref_eq (je_ixS (ix_J hr.units) ref_ix (je_var 0) (je_int) (fun _ _ => rfl)) (je_gstr (by rfl) C.c_WINDOW) (by rfl)) (je_callO O_is_window hr (by rfl) (ja_cons (je_var 0) (ja_nil))) (je_and (je_cmpS (op_eqJ hr.units) ref_eq (je_ixS (ix_J hr.units) ref_ix (je_var 0) (je_int) (fun _ _ => rfl)) (je_gstr (by rfl) C.c_NET) (by rfl)) (je_one (je_callO O_is_net hr (by rfl) (ja_cons (je_var 0) (ja_nil))))))))
theorem w_need_model (C : Cn K mg) (O_is_model_value : OkF P w K mg base 6 "is_model_value" [("thing" : PySem.Str)] m_is_model_value) {fd : FuncData} {dvs : List V} (F : FunD K "need_model" "need_model" (defArgs Hd.s_need_model) (defBody Hd.s_need_model) (defScope Hd.s_need_model) dvs [] (He.ga K "need_model") fd) : FnOk P w K mg base CX0 7 (He.ga K "need_model") fd [("thing" : PySem.Str)] (spF K m_need_model) :=
  ok_def F sc_need_model fun cdv A outer s H E hr => by
   exact jss_one (js_if (jt_not (jt_val (je_callO O_is_model_value hr (by rfl) (ja_cons (je_var 0) (ja_nil))))) (jss_one (js_never)) (jss_nil))
theorem w_are_model_tokens (C : Cn K mg) (O_are_tokens_below : OkF P w K mg base 3 "are_tokens_below" [("thing" : PySem.Str), ("many" : PySem.Str)] m_are_tokens_below) {fd : FuncData} {dvs : List V} (F : FunD K "are_model_tokens" "are_model_tokens" (defArgs Hd.s_are_model_tokens) (defBody Hd.s_are_model_tokens) (defScope Hd.s_are_model_tokens) dvs [] (He.ga K "are_model_tokens") fd) : FnOk P w K mg base CX0 4 (He.ga K "are_model_tokens") fd [("model" : PySem.Str), ("thing" : PySem.Str)] (spF K m_are_model_tokens) :=
  ok_def F sc_are_model_tokens fun cdv A outer s H E hr => by
   exact jss_one (js_ret (je_and (je_callO O_are_tokens_below hr (by rfl) (ja_cons (je_var 1) (ja_cons (je_ixS (ix_J hr.units) ref_ix (je_var 0) (je_int) (fun _ _ => rfl)) (ja_nil)))) (je_one (je_cmpS (op_neJ hr.units) ref_ne (je_var 1) (je_tup (ja_nil) len_nil (by decide)) (by rfl)))))
theorem w_clipped (C : Cn K mg) {fd : FuncData} {dvs : List V} (F : FunD K "clipped" "clipped" (defArgs Hd.s_clipped) (defBody Hd.s_clipped) (defScope Hd.s_clipped) dvs [] (He.ga K "clipped") fd) : FnOk P w K mg base CX0 1 (He.ga K "clipped") fd [("vector" : PySem.Str)] (spF K m_clipped) :=
  ok_def F sc_clipped fun cdv A outer s H E hr => by
   exact jss_one (js_ret (je_callTy call_tuple_of ref_tuple (by rfl) C.n_tuple bt_tuple (ja_cons (je_L (jf_lc (own := [(("item" : PySem.Str), 1)]) rfl sc_clipped.nd (blkOk_by (N := N_clipped) (sc := defScope Hd.s_clipped) (own := [(("item" : PySem.Str), 1)]) (by decide +kernel)) (ji_seq (je_var 0)) (fun _ _ _ _ _ => jg_nm 1 sc_clipped.nd rfl (by first | exact Or.inl rfl | exact Or.inr rfl)) (fun _ _ _ _ _ => jts_nil) (fun _ _ _ _ _ => je_callB (call_maxJ rfl) ref_max (by rfl) C.n_max bt_max (ja_cons (je_un un_neg ref_neg (je_gint (by rfl) C.c_CLIP)) (ja_cons (je_callB (call_minJ rfl) ref_min (by rfl) C.n_min bt_min (ja_cons (je_gint (by rfl) C.c_CLIP) (ja_cons (je_var 1) (ja_nil)))) (ja_nil)))) (by decide))) (ja_nil))))
theorem w_scalar (C : Cn K mg) {fd : FuncData} {dvs : List V} (F : FunD K "scalar" "scalar" (defArgs Hd.s_scalar) (defBody Hd.s_scalar) (defScope Hd.s_scalar) dvs [] (He.ga K "scalar") fd) : FnOk P w K mg base CX0 1 (He.ga K "scalar") fd [("one" : PySem.Str), ("other" : PySem.Str)] (spF K m_scalar) :=
  ok_def F sc_scalar fun cdv A outer s H E hr => by
   exact jss_one (js_ret (je_callB (call_sumJ rfl) ref_sum (by rfl) C.n_sum bt_sum (ja_cons (je_L (jf_lc (own := [(("x" : PySem.Str), 2), (("y" : PySem.Str), 3)]) rfl sc_scalar.nd (blkOk_by (N := N_scalar) (sc := defScope Hd.s_scalar) (own := [(("x" : PySem.Str), 2), (("y" : PySem.Str), 3)]) (by decide +kernel)) (ji_zip (by rfl) C.n_zip (je_var 0) (je_var 1)) (fun _ _ _ _ _ => jg_tp rfl (jgs_cons (jg_nm 2 sc_scalar.nd rfl (by first | exact Or.inl rfl | exact Or.inr rfl)) (jgs_cons (jg_nm 3 sc_scalar.nd rfl (by first | exact Or.inl rfl | exact Or.inr rfl)) (jgs_nil)))) (fun _ _ _ _ _ => jts_nil) (fun _ _ _ _ _ => je_op op_mulJ ref_mul (je_var 2) (je_var 3)) (by decide))) (ja_nil))))
theorem w_times (C : Cn K mg) (O_scalar : OkF P w K mg base 1 "scalar" [("one" : PySem.Str), ("other" : PySem.Str)] m_scalar) {fd : FuncData} {dvs : List V} (F : FunD K "times" "times" (defArgs Hd.s_times) (defBody Hd.s_times) (defScope Hd.s_times) dvs [] (He.ga K "times") fd) : FnOk P w K mg base CX0 2 (He.ga K "times") fd [("matrix" : PySem.Str), ("vector" : PySem.Str)] (spF K m_times) :=
  ok_def F sc_times fun cdv A outer s H E hr => by
   exact jss_one (js_ret (je_callTy call_tuple_of ref_tuple (by rfl) C.n_tuple bt_tuple (ja_cons (je_L (jf_lc (own := [(("row" : PySem.Str), 2)]) rfl sc_times.nd (blkOk_by (N := N_times) (sc := defScope Hd.s_times) (own := [(("row" : PySem.Str), 2)]) (by decide +kernel)) (ji_seq (je_var 0)) (fun _ _ _ _ _ => jg_nm 2 sc_times.nd rfl (by first | exact Or.inl rfl | exact Or.inr rfl)) (fun _ _ _ _ _ => jts_nil) (fun _ _ _ _ _ => je_callO O_scalar hr (by rfl) (ja_cons (je_var 2) (ja_cons (je_var 1) (ja_nil)))) (by decide))) (ja_nil))))
theorem w_plus (C : Cn K mg) (O_clipped : OkF P w K mg base 1 "clipped" [("vector" : PySem.Str)] m_clipped) {fd : FuncData} {dvs : List V} (F : FunD K "plus" "plus" (defArgs Hd.s_plus) (defBody Hd.s_plus) (defScope Hd.s_plus) dvs [] (He.ga K "plus") fd) : FnOk P w K mg base CX0 2 (He.ga K "plus") fd [("one" : PySem.Str), ("other" : PySem.Str)] (spF K m_plus) :=
  ok_def F sc_plus fun cdv A outer s H E hr => by
   exact jss_one (js_ret (je_callO O_clipped hr (by rfl) (ja_cons (je_L (jf_lc (own := [(("x" : PySem.Str), 2), (("y" : PySem.Str), 3)]) rfl sc_plus.nd (blkOk_by (N := N_plus) (sc := defScope Hd.s_plus) (own := [(("x" : PySem.Str), 2), (("y" : PySem.Str), 3)]) (by decide +kernel)) (ji_zip (by rfl) C.n_zip (je_var 0) (je_var 1)) (fun _ _ _ _ _ => jg_tp rfl (jgs_cons (jg_nm 2 sc_plus.nd rfl (by first | exact Or.inl rfl | exact Or.inr rfl)) (jgs_cons (jg_nm 3 sc_plus.nd rfl (by first | exact Or.inl rfl | exact Or.inr rfl)) (jgs_nil)))) (fun _ _ _ _ _ => jts_nil) (fun _ _ _ _ _ => je_op op_addJ ref_add (je_var 2) (je_var 3)) (by decide))) (ja_nil))))
theorem w_shares_of (C : Cn K mg) {fd : FuncData} {dvs : List V} (F : FunD K "shares_of" "shares_of" (defArgs Hd.s_shares_of) (defBody Hd.s_shares_of) (defScope Hd.s_shares_of) dvs [] (He.ga K "shares_of") fd) : FnOk P w K mg base CX0 1 (He.ga K "shares_of") fd [("scores" : PySem.Str)] (spF K m_shares_of) :=
  ok_def F sc_shares_of fun cdv A outer s H E hr => by
   exact jss_cons (js_set 1 sc_shares_of.nd rfl (by first | exact Or.inl rfl | exact Or.inr rfl) (je_callB (call_maxJ rfl) ref_max (by rfl) C.n_max bt_max (ja_cons (je_var 0) (ja_nil))))
    (jss_one (js_ret (je_L (jf_lc (own := [(("score" : PySem.Str), 2)]) rfl sc_shares_of.nd (blkOk_by (N := N_shares_of) (sc := defScope Hd.s_shares_of) (own := [(("score" : PySem.Str), 2)]) (by decide +kernel)) (ji_seq (je_var 0)) (fun _ _ _ _ _ => jg_nm 2 sc_shares_of.nd rfl (by first | exact Or.inl rfl | exact Or.inr rfl)) (fun _ _ _ _ _ => jts_nil) (fun _ _ _ _ _ => je_op op_shl ref_shl (je_int) (je_callB (call_maxJ rfl) ref_max (by rfl) C.n_max bt_max (ja_cons (je_int) (ja_cons (je_op op_sub ref_sub (je_gint (by rfl) C.c_STEEP) (je_op op_sub ref_sub (je_var 1) (je_var 2))) (ja_nil))))) (by decide)))))
theorem w_layer_done (C : Cn K mg) (O_times : OkF P w K mg base 2 "times" [("matrix" : PySem.Str), ("vector" : PySem.Str)] m_times) (O_shares_of : OkF P w K mg base 1 "shares_of" [("scores" : PySem.Str)] m_shares_of) (O_plus : OkF P w K mg base 2 "plus" [("one" : PySem.Str), ("other" : PySem.Str)] m_plus) (O_scalar : OkF P w K mg base 1 "scalar" [("one" : PySem.Str), ("other" : PySem.Str)] m_scalar) {fd : FuncData} {dvs : List V} (F : FunD K "layer_done" "layer_done" (defArgs Hd.s_layer_done) (defBody Hd.s_layer_done) (defScope Hd.s_layer_done) dvs [] (He.ga K "layer_done") fd) : FnOk P w K mg base CX0 3 (He.ga K "layer_done") fd [("layer" : PySem.Str), ("state" : PySem.Str), ("kept" : PySem.Str)] (spF K m_layer_done) :=
  ok_def F sc_layer_done fun cdv A outer s H E hr => by
   exact jss_cons (js_asg (je_var 0) (jg_tp rfl (jgs_cons (jg_nm 3 sc_layer_done.nd rfl (by first | exact Or.inl rfl | exact Or.inr rfl)) (jgs_cons (jg_nm 4 sc_layer_done.nd rfl (by first | exact Or.inl rfl | exact Or.inr rfl)) (jgs_cons (jg_nm 5 sc_layer_done.nd rfl (by first | exact Or.inl rfl | exact Or.inr rfl)) (jgs_cons (jg_nm 6 sc_layer_done.nd rfl (by first | exact Or.inl rfl | exact Or.inr rfl)) (jgs_nil)))))))
    (jss_cons (js_set 7 sc_layer_done.nd rfl (by first | exact Or.inl rfl | exact Or.inr rfl) (je_tup (ja_cons (je_callO O_times hr (by rfl) (ja_cons (je_var 4) (ja_cons (je_var 1) (ja_nil)))) (ja_cons (je_callO O_times hr (by rfl) (ja_cons (je_var 5) (ja_cons (je_var 1) (ja_nil)))) (ja_nil))) (len_cons (len_cons len_nil)) (by decide)))
    (jss_cons (js_set 8 sc_layer_done.nd rfl (by first | exact Or.inl rfl | exact Or.inr rfl) (je_op op_addJ ref_add (je_var 2) (je_L (jf_lst (ja_cons (je_var 7) (ja_nil)) (len_cons len_nil) (by decide)))))
    (jss_cons (js_set 9 sc_layer_done.nd rfl (by first | exact Or.inl rfl | exact Or.inr rfl) (je_callO O_times hr (by rfl) (ja_cons (je_var 3) (ja_cons (je_var 1) (ja_nil)))))
    (jss_cons (js_set 10 sc_layer_done.nd rfl (by first | exact Or.inl rfl | exact Or.inr rfl) (je_callO O_shares_of (hr.mono (by decide)) (by rfl) (ja_cons (je_L (jf_lc (own := [(("pair" : PySem.Str), 11)]) rfl sc_layer_done.nd (blkOk_by (N := N_layer_done) (sc := defScope Hd.s_layer_done) (own := [(("pair" : PySem.Str), 11)]) (by decide +kernel)) (ji_seq (je_var 8)) (fun _ _ _ _ _ => jg_nm 11 sc_layer_done.nd rfl (by first | exact Or.inl rfl | exact Or.inr rfl)) (fun _ _ _ _ _ => jts_nil) (fun _ _ _ _ _ => je_callO O_scalar (hr.mono (by decide)) (by rfl) (ja_cons (je_var 9) (ja_cons (je_ixS (ix_J hr.units) ref_ix (je_var 11) (je_int) (fun _ _ => rfl)) (ja_nil)))) (by decide))) (ja_nil))))
    (jss_cons (js_set 12 sc_layer_done.nd rfl (by first | exact Or.inl rfl | exact Or.inr rfl) (je_callB (call_sumJ rfl) ref_sum (by rfl) C.n_sum bt_sum (ja_cons (je_var 10) (ja_nil))))
    (jss_cons (js_own 13 sc_layer_done.nd rfl (by first | exact Or.inl rfl | exact Or.inr rfl) (jf_lst (ja_nil) len_nil (by decide)))
    (jss_cons (js_for PassesOwn.never rfl (ji_range (by rfl) C.n_range (ja_cons (je_callB call_lenJ ref_len (by rfl) C.n_len bt_len (ja_cons (je_var 1) (ja_nil))) (ja_nil))) (jg_nm 14 sc_layer_done.nd rfl (by first | exact Or.inl rfl | exact Or.inr rfl)) (jss_one (js_app 13 rfl (by first | exact Or.inl rfl | exact Or.inr (Or.inl rfl) | exact Or.inr (Or.inr rfl)) (je_op op_fdiv ref_div (je_callB (call_sumJ rfl) ref_sum (by rfl) C.n_sum bt_sum (ja_cons (je_L (jf_lc (own := [(("share" : PySem.Str), 15), (("pair" : PySem.Str), 11)]) rfl sc_layer_done.nd (blkOk_by (N := N_layer_done) (sc := defScope Hd.s_layer_done) (own := [(("share" : PySem.Str), 15), (("pair" : PySem.Str), 11)]) (by decide +kernel)) (ji_zip (by rfl) C.n_zip (je_var 10) (je_var 8)) (fun _ _ _ _ _ => jg_tp rfl (jgs_cons (jg_nm 15 sc_layer_done.nd rfl (by first | exact Or.inl rfl | exact Or.inr rfl)) (jgs_cons (jg_nm 11 sc_layer_done.nd rfl (by first | exact Or.inl rfl | exact Or.inr rfl)) (jgs_nil)))) (fun _ _ _ _ _ => jts_nil) (fun _ _ _ _ _ => je_op op_mulJ ref_mul (je_var 15) (je_ixS (ix_J hr.units) ref_ix (je_ixS (ix_J hr.units) ref_ix (je_var 11) (je_int) (fun _ _ => rfl)) (je_var 14) (fun _ _ => rfl))) (by decide))) (ja_nil))) (je_var 12)))))
    (jss_one (js_ret (je_tup (ja_cons (je_var 7) (ja_cons (je_callO O_plus hr (by rfl) (ja_cons (je_var 1) (ja_cons (je_callO O_times hr (by rfl) (ja_cons (je_var 6) (ja_cons (je_var 13) (ja_nil)))) (ja_nil)))) (ja_nil))) (len_cons (len_cons len_nil)) (by decide)))))))))))
theorem w_net_step (C : Cn K mg) (O_plus : OkF P w K mg base 2 "plus" [("one" : PySem.Str), ("other" : PySem.Str)] m_plus) (O_layer_done : OkF P w K mg base 3 "layer_done" [("layer" : PySem.Str), ("state" : PySem.Str), ("kept" : PySem.Str)] m_layer_done) (O_shares_of : OkF P w K mg base 1 "shares_of" [("scores" : PySem.Str)] m_shares_of) (O_scalar : OkF P w K mg base 1 "scalar" [("one" : PySem.Str), ("other" : PySem.Str)] m_scalar) {fd : FuncData} {dvs : List V} (F : FunD K "net_step" "net_step" (defArgs Hd.s_net_step) (defBody Hd.s_net_step) (defScope Hd.s_net_step) dvs [] (He.ga K "net_step") fd) : FnOk P w K mg base CX0 4 (He.ga K "net_step") fd [("model" : PySem.Str), ("rows" : PySem.Str), ("token" : PySem.Str)] (spF K m_net_step) :=
  ok_def F sc_net_step fun cdv A outer s H E hr => by
   exact jss_cons (js_asg (je_var 0) (jg_tp rfl (jgs_cons (jg_nm 3 sc_net_step.nd rfl (by first | exact Or.inl rfl | exact Or.inr rfl)) (jgs_cons (jg_nm 4 sc_net_step.nd rfl (by first | exact Or.inl rfl | exact Or.inr rfl)) (jgs_cons (jg_nm 5 sc_net_step.nd rfl (by first | exact Or.inl rfl | exact Or.inr rfl)) (jgs_cons (jg_nm 6 sc_net_step.nd rfl (by first | exact Or.inl rfl | exact Or.inr rfl)) (jgs_cons (jg_nm 7 sc_net_step.nd rfl (by first | exact Or.inl rfl | exact Or.inr rfl)) (jgs_cons (jg_nm 8 sc_net_step.nd rfl (by first | exact Or.inl rfl | exact Or.inr rfl)) (jgs_cons (jg_nm 9 sc_net_step.nd rfl (by first | exact Or.inl rfl | exact Or.inr rfl)) (jgs_nil))))))))))
    (jss_cons (js_asgVO 10 11 (by decide) (je_callO O_plus (hr.mono (by decide)) (by rfl) (ja_cons (je_ixS (ix_J hr.units) ref_ix (je_var 6) (je_var 2) (fun _ _ => rfl)) (ja_cons (je_ixS (ix_J hr.units) ref_ix (je_var 7) (je_op op_mod ref_mod (je_callB call_lenJ ref_len (by rfl) C.n_len bt_len (ja_cons (je_var 1) (ja_nil))) (je_callB call_lenJ ref_len (by rfl) C.n_len bt_len (ja_cons (je_var 7) (ja_nil)))) (fun _ _ => rfl)) (ja_nil)))) (jf_lst (ja_nil) len_nil (by decide)) (jg_tp rfl (jgs_cons (jg_nm 10 sc_net_step.nd rfl (by first | exact Or.inl rfl | exact Or.inr rfl)) (jgs_cons (jg_nm 11 sc_net_step.nd rfl (by first | exact Or.inl rfl | exact Or.inr rfl)) (jgs_nil)))))
    (jss_cons (js_for PassesOwn.never rfl (ji_enum (by rfl) C.n_enumerate (je_var 8)) (jg_tp rfl (jgs_cons (jg_nm 12 sc_net_step.nd rfl (by first | exact Or.inl rfl | exact Or.inr rfl)) (jgs_cons (jg_nm 13 sc_net_step.nd rfl (by first | exact Or.inl rfl | exact Or.inr rfl)) (jgs_nil)))) (jss_cons (js_asg (je_callO O_layer_done hr (by rfl) (ja_cons (je_var 13) (ja_cons (je_var 10) (ja_cons (je_L (jf_lc (own := [(("row" : PySem.Str), 15)]) rfl sc_net_step.nd (blkOk_by (N := N_net_step) (sc := defScope Hd.s_net_step) (own := [(("row" : PySem.Str), 15)]) (by decide +kernel)) (ji_seq (je_var 1)) (fun _ _ _ _ _ => jg_nm 15 sc_net_step.nd rfl (by first | exact Or.inl rfl | exact Or.inr rfl)) (fun _ _ _ _ _ => jts_nil) (fun _ _ _ _ _ => je_ixS (ix_J hr.units) ref_ix (je_var 15) (je_var 12) (fun _ _ => rfl)) (by decide))) (ja_nil))))) (jg_tp rfl (jgs_cons (jg_nm 14 sc_net_step.nd rfl (by first | exact Or.inl rfl | exact Or.inr rfl)) (jgs_cons (jg_nm 10 sc_net_step.nd rfl (by first | exact Or.inl rfl | exact Or.inr rfl)) (jgs_nil)))))
    (jss_one (js_app 11 rfl (by first | exact Or.inl rfl | exact Or.inr (Or.inl rfl) | exact Or.inr (Or.inr rfl)) (je_var 14)))))
    (jss_one (js_ret (je_tup (ja_cons (je_callTy call_tuple_of ref_tuple (by rfl) C.n_tuple bt_tuple (ja_cons (je_var 11) (ja_nil))) (ja_cons (je_callTy call_tuple_of ref_tuple (by rfl) C.n_tuple bt_tuple (ja_cons (je_callO O_shares_of (hr.mono (by decide)) (by rfl) (ja_cons (je_L (jf_lc (own := [(("out" : PySem.Str), 16)]) rfl sc_net_step.nd (blkOk_by (N := N_net_step) (sc := defScope Hd.s_net_step) (own := [(("out" : PySem.Str), 16)]) (by decide +kernel)) (ji_seq (je_var 9)) (fun _ _ _ _ _ => jg_nm 16 sc_net_step.nd rfl (by first | exact Or.inl rfl | exact Or.inr rfl)) (fun _ _ _ _ _ => jts_nil) (fun _ _ _ _ _ => je_callO O_scalar (hr.mono (by decide)) (by rfl) (ja_cons (je_var 16) (ja_cons (je_var 10) (ja_nil)))) (by decide))) (ja_nil))) (ja_nil))) (ja_nil))) (len_cons (len_cons len_nil)) (by decide))))))
theorem w_window_weights (C : Cn K mg) {fd : FuncData} {dvs : List V} (F : FunD K "window_weights" "window_weights" (defArgs Hd.s_window_weights) (defBody Hd.s_window_weights) (defScope Hd.s_window_weights) dvs [] (He.ga K "window_weights") fd) : FnOk P w K mg base CX0 1 (He.ga K "window_weights") fd [("model" : PySem.Str), ("tokens" : PySem.Str)] (spF K m_window_weights) :=
  ok_def F sc_window_weights fun cdv A outer s H E hr => by
   exact jss_cons (js_set 2 sc_window_weights.nd rfl (by first | exact Or.inl rfl | exact Or.inr rfl) (je_ixS (ix_J hr.units) ref_ix (je_var 0) (je_int) (fun _ _ => rfl)))
    (jss_cons (js_set 3 sc_window_weights.nd rfl (by first | exact Or.inl rfl | exact Or.inr rfl) (je_callTy call_tuple_of ref_tuple (by rfl) C.n_tuple bt_tuple (ja_cons (je_slice sl_J ref_slice (je_var 1) (jo_some (je_callB (call_maxJ rfl) ref_max (by rfl) C.n_max bt_max (ja_cons (je_int) (ja_cons (je_op op_sub ref_sub (je_callB call_lenJ ref_len (by rfl) C.n_len bt_len (ja_cons (je_var 1) (ja_nil))) (je_var 2)) (ja_nil))))) (jo_none)) (ja_nil))))
    (jss_cons (js_for PassesOwn.never rfl (ji_seq (je_ixS (ix_J hr.units) ref_ix (je_var 0) (je_int) (fun _ _ => rfl))) (jg_nm 4 sc_window_weights.nd rfl (by first | exact Or.inl rfl | exact Or.inr rfl)) (jss_one (js_if (jt_cmpS (op_eqJ hr.units) ref_eq (je_ixS (ix_J hr.units) ref_ix (je_var 4) (je_int) (fun _ _ => rfl)) (je_var 3) (by rfl)) (jss_one (js_ret (je_ixS (ix_J hr.units) ref_ix (je_var 4) (je_int) (fun _ _ => rfl)))) (jss_nil))))
    (jss_one (js_ret (je_ixS (ix_J hr.units) ref_ix (je_var 0) (je_int) (fun _ _ => rfl))))))
theorem w_step_raw (C : Cn K mg) (O_net_step : OkF P w K mg base 4 "net_step" [("model" : PySem.Str), ("rows" : PySem.Str), ("token" : PySem.Str)] m_net_step) (O_window_weights : OkF P w K mg base 1 "window_weights" [("model" : PySem.Str), ("tokens" : PySem.Str)] m_window_weights) {fd : FuncData} {dvs : List V} (F : FunD K "step_raw" "step_raw" (defArgs Hd.s_step_raw) (defBody Hd.s_step_raw) (defScope Hd.s_step_raw) dvs [] (He.ga K "step_raw") fd) : FnOk P w K mg base CX0 5 (He.ga K "step_raw") fd [("model" : PySem.Str), ("rows" : PySem.Str), ("token" : PySem.Str)] (spF K m_step_raw) :=
  ok_def F sc_step_raw fun cdv A outer s H E hr => by
   exact jss_cons (js_if (jt_cmpS (op_eqJ hr.units) ref_eq (je_ixS (ix_J hr.units) ref_ix (je_var 0) (je_int) (fun _ _ => rfl)) (je_gstr (by rfl) C.c_WINDOW) (by rfl)) (jss_one (js_ret (je_tup (ja_cons (je_tup (ja_cons (je_var 2) (ja_nil)) (len_cons len_nil) (by decide)) (ja_cons (je_callO O_window_weights (hr.mono (by decide)) (by rfl) (ja_cons (je_var 0) (ja_cons (je_op op_addJ ref_add (je_callTy call_tuple_of ref_tuple (by rfl) C.n_tuple bt_tuple (ja_cons (je_L (jf_lc (own := [(("row" : PySem.Str), 3)]) rfl sc_step_raw.nd (blkOk_by (N := N_step_raw) (sc := defScope Hd.s_step_raw) (own := [(("row" : PySem.Str), 3)]) (by decide +kernel)) (ji_seq (je_var 1)) (fun _ _ _ _ _ => jg_nm 3 sc_step_raw.nd rfl (by first | exact Or.inl rfl | exact Or.inr rfl)) (fun _ _ _ _ _ => jts_nil) (fun _ _ _ _ _ => je_ixS (ix_J hr.units) ref_ix (je_var 3) (je_int) (fun _ _ => rfl)) (by decide))) (ja_nil))) (je_tup (ja_cons (je_var 2) (ja_nil)) (len_cons len_nil) (by decide))) (ja_nil)))) (ja_nil))) (len_cons (len_cons len_nil)) (by decide)))) (jss_nil))
    (jss_one (js_ret (je_callO O_net_step hr (by rfl) (ja_cons (je_var 0) (ja_cons (je_var 1) (ja_cons (je_var 2) (ja_nil)))))))
theorem w_all_rows (C : Cn K mg) (O_step_raw : OkF P w K mg base 5 "step_raw" [("model" : PySem.Str), ("rows" : PySem.Str), ("token" : PySem.Str)] m_step_raw) {fd : FuncData} {dvs : List V} (F : FunD K "all_rows" "all_rows" (defArgs Hd.s_all_rows) (defBody Hd.s_all_rows) (defScope Hd.s_all_rows) dvs [] (He.ga K "all_rows") fd) : FnOk P w K mg base CX0 6 (He.ga K "all_rows") fd [("model" : PySem.Str), ("tokens" : PySem.Str)] (spF K m_all_rows) :=
  ok_def F sc_all_rows fun cdv A outer s H E hr => by
   exact jss_cons (js_own 2 sc_all_rows.nd rfl (by first | exact Or.inl rfl | exact Or.inr rfl) (jf_lst (ja_nil) len_nil (by decide)))
    (jss_cons (js_for PassesOwn.never rfl (ji_seq (je_var 1)) (jg_nm 3 sc_all_rows.nd rfl (by first | exact Or.inl rfl | exact Or.inr rfl)) (jss_one (js_appF 2 rfl (by first | exact Or.inl rfl | exact Or.inr (Or.inl rfl) | exact Or.inr (Or.inr rfl)) (je_ixS (ix_J hr.units) ref_ix (je_callO O_step_raw hr (by rfl) (ja_cons (je_var 0) (ja_cons (je_var 2) (ja_cons (je_var 3) (ja_nil))))) (je_int) (fun _ _ => rfl)))))
    (jss_one (js_ret (je_var 2))))
theorem w_weights_raw (C : Cn K mg) (O_window_weights : OkF P w K mg base 1 "window_weights" [("model" : PySem.Str), ("tokens" : PySem.Str)] m_window_weights) (O_step_raw : OkF P w K mg base 5 "step_raw" [("model" : PySem.Str), ("rows" : PySem.Str), ("token" : PySem.Str)] m_step_raw) (O_all_rows : OkF P w K mg base 6 "all_rows" [("model" : PySem.Str), ("tokens" : PySem.Str)] m_all_rows) {fd : FuncData} {dvs : List V} (F : FunD K "weights_raw" "weights_raw" (defArgs Hd.s_weights_raw) (defBody Hd.s_weights_raw) (defScope Hd.s_weights_raw) dvs [] (He.ga K "weights_raw") fd) : FnOk P w K mg base CX0 7 (He.ga K "weights_raw") fd [("model" : PySem.Str), ("tokens" : PySem.Str)] (spF K m_weights_raw) :=
  ok_def F sc_weights_raw fun cdv A outer s H E hr => by
   exact jss_cons (js_if (jt_cmpS (op_eqJ hr.units) ref_eq (je_ixS (ix_J hr.units) ref_ix (je_var 0) (je_int) (fun _ _ => rfl)) (je_gstr (by rfl) C.c_WINDOW) (by rfl)) (jss_one (js_ret (je_callO O_window_weights (hr.mono (by decide)) (by rfl) (ja_cons (je_var 0) (ja_cons (je_var 1) (ja_nil)))))) (jss_nil))
    (jss_one (js_ret (je_ixS (ix_J hr.units) ref_ix (je_callO O_step_raw (hr.mono (by decide)) (by rfl) (ja_cons (je_var 0) (ja_cons (je_callO O_all_rows hr (by rfl) (ja_cons (je_var 0) (ja_cons (je_slice sl_J ref_slice (je_var 1) (jo_none) (jo_some (je_un un_neg ref_neg (je_int)))) (ja_nil)))) (ja_cons (je_ixS (ix_J hr.units) ref_ix (je_var 1) (je_un un_neg ref_neg (je_int)) (fun _ _ => rfl)) (ja_nil))))) (je_int) (fun _ _ => rfl))))
theorem w_words_of (C : Cn K mg) {fd : FuncData} {dvs : List V} (F : FunD K "words_of" "words_of" (defArgs Hd.s_words_of) (defBody Hd.s_words_of) (defScope Hd.s_words_of) dvs [] (He.ga K "words_of") fd) : FnOk P w K mg base CX0 1 (He.ga K "words_of") fd [("word" : PySem.Str), ("numbers" : PySem.Str)] (spF K m_words_of) :=
  ok_def F sc_words_of fun cdv A outer s H E hr => by
   exact jss_one (js_ret (je_join (je_str) (je_op op_addJ ref_add (je_L (jf_lst (ja_cons (je_var 0) (ja_nil)) (len_cons len_nil) (by decide))) (je_L (jf_lc (own := [(("number" : PySem.Str), 2)]) rfl sc_words_of.nd (blkOk_by (N := N_words_of) (sc := defScope Hd.s_words_of) (own := [(("number" : PySem.Str), 2)]) (by decide +kernel)) (ji_seq (je_var 1)) (fun _ _ _ _ _ => jg_nm 2 sc_words_of.nd rfl (by first | exact Or.inl rfl | exact Or.inr rfl)) (fun _ _ _ _ _ => jts_nil) (fun _ _ _ _ _ => je_callTy call_str_int ref_str (by rfl) C.n_str bt_str (ja_cons (je_var 2) (ja_nil))) (by decide))))))
theorem w_vocabulary_lines (C : Cn K mg) (O_words_of : OkF P w K mg base 1 "words_of" [("word" : PySem.Str), ("numbers" : PySem.Str)] m_words_of) {fd : FuncData} {dvs : List V} (F : FunD K "vocabulary_lines" "vocabulary_lines" (defArgs Hd.s_vocabulary_lines) (defBody Hd.s_vocabulary_lines) (defScope Hd.s_vocabulary_lines) dvs [] (He.ga K "vocabulary_lines") fd) : FnOk P w K mg base CX0 2 (He.ga K "vocabulary_lines") fd [("vocabulary" : PySem.Str)] (spF K m_vocabulary_lines) :=
  ok_def F sc_vocabulary_lines fun cdv A outer s H E hr => by
   exact jss_one (js_ret (je_op op_addJ ref_add (je_L (jf_lst (ja_cons (je_op op_addJ ref_add (je_str) (je_ixS (ix_J hr.units) ref_ix (je_var 0) (je_int) (fun _ _ => rfl))) (ja_nil)) (len_cons len_nil) (by decide))) (je_L (jf_lc (own := [(("merge" : PySem.Str), 1)]) rfl sc_vocabulary_lines.nd (blkOk_by (N := N_vocabulary_lines) (sc := defScope Hd.s_vocabulary_lines) (own := [(("merge" : PySem.Str), 1)]) (by decide +kernel)) (ji_seq (je_ixS (ix_J hr.units) ref_ix (je_var 0) (je_int) (fun _ _ => rfl))) (fun _ _ _ _ _ => jg_nm 1 sc_vocabulary_lines.nd rfl (by first | exact Or.inl rfl | exact Or.inr rfl)) (fun _ _ _ _ _ => jts_nil) (fun _ _ _ _ _ => je_callO O_words_of hr (by rfl) (ja_cons (je_str) (ja_cons (je_var 1) (ja_nil)))) (by decide)))))
theorem w_model_lines (C : Cn K mg) (O_words_of : OkF P w K mg base 1 "words_of" [("word" : PySem.Str), ("numbers" : PySem.Str)] m_words_of) {fd : FuncData} {dvs : List V} (F : FunD K "model_lines" "model_lines" (defArgs Hd.s_model_lines) (defBody Hd.s_model_lines) (defScope Hd.s_model_lines) dvs [] (He.ga K "model_lines") fd) : FnOk P w K mg base CX0 2 (He.ga K "model_lines") fd [("model" : PySem.Str)] (spF K m_model_lines) :=
  ok_def F sc_model_lines fun cdv A outer s H E hr => by
   exact jss_cons (js_if (jt_cmpS (op_eqJ hr.units) ref_eq (je_ixS (ix_J hr.units) ref_ix (je_var 0) (je_int) (fun _ _ => rfl)) (je_gstr (by rfl) C.c_WINDOW) (by rfl)) (jss_cons (js_asg (je_var 0) (jg_tp rfl (jgs_cons (jg_nm 1 sc_model_lines.nd rfl (by first | exact Or.inl rfl | exact Or.inr rfl)) (jgs_cons (jg_nm 2 sc_model_lines.nd rfl (by first | exact Or.inl rfl | exact Or.inr rfl)) (jgs_cons (jg_nm 3 sc_model_lines.nd rfl (by first | exact Or.inl rfl | exact Or.inr rfl)) (jgs_cons (jg_nm 4 sc_model_lines.nd rfl (by first | exact Or.inl rfl | exact Or.inr rfl)) (jgs_cons (jg_nm 5 sc_model_lines.nd rfl (by first | exact Or.inl rfl | exact Or.inr rfl)) (jgs_nil))))))))
    (jss_cons (js_own 6 sc_model_lines.nd rfl (by first | exact Or.inl rfl | exact Or.inr rfl) (jf_lst (ja_cons (je_callO O_words_of hr (by rfl) (ja_cons (je_gstr (by rfl) C.c_WINDOW) (ja_cons (je_tup (ja_cons (je_var 2) (ja_cons (je_var 3) (ja_nil))) (len_cons (len_cons len_nil)) (by decide)) (ja_nil)))) (ja_cons (je_callO O_words_of hr (by rfl) (ja_cons (je_str) (ja_cons (je_var 5) (ja_nil)))) (ja_nil))) (len_cons (len_cons len_nil)) (by decide)))
    (jss_one (js_ret (je_op op_addJ ref_add (je_var 6) (je_L (jf_lc (own := [(("last" : PySem.Str), 7), (("weights" : PySem.Str), 8)]) rfl sc_model_lines.nd (blkOk_by (N := N_model_lines) (sc := defScope Hd.s_model_lines) (own := [(("last" : PySem.Str), 7), (("weights" : PySem.Str), 8)]) (by decide +kernel)) (ji_seq (je_var 4)) (fun _ _ _ _ _ => jg_tp rfl (jgs_cons (jg_nm 7 sc_model_lines.nd rfl (by first | exact Or.inl rfl | exact Or.inr rfl)) (jgs_cons (jg_nm 8 sc_model_lines.nd rfl (by first | exact Or.inl rfl | exact Or.inr rfl)) (jgs_nil)))) (fun _ _ _ _ _ => jts_nil) (fun _ _ _ _ _ => je_callO O_words_of hr (by rfl) (ja_cons (je_op op_addJ ref_add (je_callO O_words_of hr (by rfl) (ja_cons (je_str) (ja_cons (je_var 7) (ja_nil)))) (je_str)) (ja_cons (je_var 8) (ja_nil)))) (by decide)))))))) (jss_nil))
    (jss_cons (js_asg (je_var 0) (jg_tp rfl (jgs_cons (jg_nm 1 sc_model_lines.nd rfl (by first | exact Or.inl rfl | exact Or.inr rfl)) (jgs_cons (jg_nm 2 sc_model_lines.nd rfl (by first | exact Or.inl rfl | exact Or.inr rfl)) (jgs_cons (jg_nm 9 sc_model_lines.nd rfl (by first | exact Or.inl rfl | exact Or.inr rfl)) (jgs_cons (jg_nm 10 sc_model_lines.nd rfl (by first | exact Or.inl rfl | exact Or.inr rfl)) (jgs_cons (jg_nm 11 sc_model_lines.nd rfl (by first | exact Or.inl rfl | exact Or.inr rfl)) (jgs_cons (jg_nm 12 sc_model_lines.nd rfl (by first | exact Or.inl rfl | exact Or.inr rfl)) (jgs_cons (jg_nm 13 sc_model_lines.nd rfl (by first | exact Or.inl rfl | exact Or.inr rfl)) (jgs_nil))))))))))
    (jss_cons (js_own 6 sc_model_lines.nd rfl (by first | exact Or.inl rfl | exact Or.inr rfl) (jf_lst (ja_cons (je_callO O_words_of hr (by rfl) (ja_cons (je_gstr (by rfl) C.c_NET) (ja_cons (je_tup (ja_cons (je_var 2) (ja_cons (je_var 9) (ja_nil))) (len_cons (len_cons len_nil)) (by decide)) (ja_nil)))) (ja_nil)) (len_cons len_nil) (by decide)))
    (jss_cons (js_ext 6 rfl (by first | exact Or.inl rfl | exact Or.inr (Or.inl rfl) | exact Or.inr (Or.inr rfl)) (je_op op_addJ ref_add (je_L (jf_lc (own := [(("vector" : PySem.Str), 14)]) rfl sc_model_lines.nd (blkOk_by (N := N_model_lines) (sc := defScope Hd.s_model_lines) (own := [(("vector" : PySem.Str), 14)]) (by decide +kernel)) (ji_seq (je_var 10)) (fun _ _ _ _ _ => jg_nm 14 sc_model_lines.nd rfl (by first | exact Or.inl rfl | exact Or.inr rfl)) (fun _ _ _ _ _ => jts_nil) (fun _ _ _ _ _ => je_callO O_words_of hr (by rfl) (ja_cons (je_str) (ja_cons (je_var 14) (ja_nil)))) (by decide))) (je_L (jf_lc (own := [(("vector" : PySem.Str), 14)]) rfl sc_model_lines.nd (blkOk_by (N := N_model_lines) (sc := defScope Hd.s_model_lines) (own := [(("vector" : PySem.Str), 14)]) (by decide +kernel)) (ji_seq (je_var 11)) (fun _ _ _ _ _ => jg_nm 14 sc_model_lines.nd rfl (by first | exact Or.inl rfl | exact Or.inr rfl)) (fun _ _ _ _ _ => jts_nil) (fun _ _ _ _ _ => je_callO O_words_of hr (by rfl) (ja_cons (je_str) (ja_cons (je_var 14) (ja_nil)))) (by decide)))))
    (jss_cons (js_for PassesOwn.never rfl (ji_seq (je_var 12)) (jg_nm 15 sc_model_lines.nd rfl (by first | exact Or.inl rfl | exact Or.inr rfl)) (jss_one (js_for PassesOwn.never rfl (ji_zip (by rfl) C.n_zip (je_gtup (by rfl) C.c_KINDS C.t_KINDS) (je_var 15)) (jg_tp rfl (jgs_cons (jg_nm 16 sc_model_lines.nd rfl (by first | exact Or.inl rfl | exact Or.inr rfl)) (jgs_cons (jg_nm 17 sc_model_lines.nd rfl (by first | exact Or.inl rfl | exact Or.inr rfl)) (jgs_nil)))) (jss_one (js_ext 6 rfl (by first | exact Or.inl rfl | exact Or.inr (Or.inl rfl) | exact Or.inr (Or.inr rfl)) (je_L (jf_lc (own := [(("vector" : PySem.Str), 14)]) rfl sc_model_lines.nd (blkOk_by (N := N_model_lines) (sc := defScope Hd.s_model_lines) (own := [(("vector" : PySem.Str), 14)]) (by decide +kernel)) (ji_seq (je_var 17)) (fun _ _ _ _ _ => jg_nm 14 sc_model_lines.nd rfl (by first | exact Or.inl rfl | exact Or.inr rfl)) (fun _ _ _ _ _ => jts_nil) (fun _ _ _ _ _ => je_callO O_words_of hr (by rfl) (ja_cons (je_var 16) (ja_cons (je_var 14) (ja_nil)))) (by decide))))))))
    (jss_one (js_ret (je_op op_addJ ref_add (je_var 6) (je_L (jf_lc (own := [(("vector" : PySem.Str), 14)]) rfl sc_model_lines.nd (blkOk_by (N := N_model_lines) (sc := defScope Hd.s_model_lines) (own := [(("vector" : PySem.Str), 14)]) (by decide +kernel)) (ji_seq (je_var 13)) (fun _ _ _ _ _ => jg_nm 14 sc_model_lines.nd rfl (by first | exact Or.inl rfl | exact Or.inr rfl)) (fun _ _ _ _ _ => jts_nil) (fun _ _ _ _ _ => je_callO O_words_of hr (by rfl) (ja_cons (je_str) (ja_cons (je_var 14) (ja_nil)))) (by decide))))))))))
theorem w_integer_of (C : Cn K mg) {fd : FuncData} {dvs : List V} (F : FunD K "integer_of" "integer_of" (defArgs Hd.s_integer_of) (defBody Hd.s_integer_of) (defScope Hd.s_integer_of) dvs [] (He.ga K "integer_of") fd) : FnOk P w K mg base CX0 1 (He.ga K "integer_of") fd [("word" : PySem.Str)] (spF K m_integer_of) :=
  ok_def F sc_integer_of fun cdv A outer s H E hr => by
   exact jss_cons (js_set 1 sc_integer_of.nd rfl (by first | exact Or.inl rfl | exact Or.inr rfl) (je_if (jt_cmpS (op_eqJ hr.units) ref_eq (je_slice sl_J ref_slice (je_var 0) (jo_none) (jo_some (je_int))) (je_str) (by rfl)) (je_slice sl_J ref_slice (je_var 0) (jo_some (je_int)) (jo_none)) (je_var 0)))
    (jss_cons (js_if (jt_w (jw_or (jt_cmpS (op_eqJ hr.units) ref_eq (je_var 1) (je_str) (by rfl)) (jw_or (jt_not (jt_val (je_callB (cr_all rfl) ref_all (by rfl) C.n_all bt_all (ja_cons (je_L (jf_lc (own := [(("sign" : PySem.Str), 2)]) rfl sc_integer_of.nd (blkOk_by (N := N_integer_of) (sc := defScope Hd.s_integer_of) (own := [(("sign" : PySem.Str), 2)]) (by decide +kernel)) (ji_seq (je_var 1)) (fun _ _ _ _ _ => jg_nm 2 sc_integer_of.nd rfl (by first | exact Or.inl rfl | exact Or.inr rfl)) (fun _ _ _ _ _ => jts_nil) (fun _ _ _ _ _ => je_cmp op_inJ ref_in (je_var 2) (je_gstr (by rfl) C.c_DIGITS) (by rfl)) (by decide))) (ja_nil))))) (jw_or1 (jt_w (jw_and (jt_cmpS (op_eqJ hr.units) ref_eq (je_ixS (ix_J hr.units) ref_ix (je_var 1) (je_int) (fun _ _ => rfl)) (je_str) (by rfl)) (jw_and1 (jt_cmpS (op_neJ hr.units) ref_ne (je_var 0) (je_str) (by rfl))))))))) (jss_one (js_ret (je_non))) (jss_nil))
    (jss_one (js_ret (je_callTy call_intJ ref_int (by rfl) C.n_int bt_int (ja_cons (je_var 0) (ja_nil))))))
theorem w_integers_of (C : Cn K mg) (O_integer_of : OkF P w K mg base 1 "integer_of" [("word" : PySem.Str)] m_integer_of) {fd : FuncData} {dvs : List V} (F : FunD K "integers_of" "integers_of" (defArgs Hd.s_integers_of) (defBody Hd.s_integers_of) (defScope Hd.s_integers_of) dvs [] (He.ga K "integers_of") fd) : FnOk P w K mg base CX0 2 (He.ga K "integers_of") fd [("words" : PySem.Str)] (spF K m_integers_of) :=
  ok_def F sc_integers_of fun cdv A outer s H E hr => by
   exact jss_cons (js_setLc 1 (own := [(("word" : PySem.Str), 2)]) rfl sc_integers_of.nd rfl rfl (sw_true rfl rfl rfl (by decide +kernel)) (blkOk_by (N := N_integers_of) (sc := defScope Hd.s_integers_of) (own := [(("word" : PySem.Str), 2)]) (by decide +kernel)) (ji_seq (je_var 0)) (fun _ _ _ _ _ => jg_nm 2 sc_integers_of.nd rfl (by first | exact Or.inl rfl | exact Or.inr rfl)) (fun _ _ _ _ _ => jts_nil) (fun _ _ _ _ _ => je_callO O_integer_of hr (by rfl) (ja_cons (je_var 2) (ja_nil))) (by decide))
    (jss_one (js_ret (je_if (jt_cmp op_inJ ref_in (je_non) (je_var 1) (by rfl)) (je_non) (je_callTy call_tuple_of ref_tuple (by rfl) C.n_tuple bt_tuple (ja_cons (je_var 1) (ja_nil))))))
theorem w_numbers_behind (C : Cn K mg) (O_integers_of : OkF P w K mg base 2 "integers_of" [("words" : PySem.Str)] m_integers_of) {fd : FuncData} {dvs : List V} (F : FunD K "numbers_behind" "numbers_behind" (defArgs Hd.s_numbers_behind) (defBody Hd.s_numbers_behind) (defScope Hd.s_numbers_behind) dvs [] (He.ga K "numbers_behind") fd) : FnOk P w K mg base CX0 3 (He.ga K "numbers_behind") fd [("row" : PySem.Str), ("word" : PySem.Str)] (spF K m_numbers_behind) :=
  ok_def F sc_numbers_behind fun cdv A outer s H E hr => by
   exact jss_cons (js_set 2 sc_numbers_behind.nd rfl (by first | exact Or.inl rfl | exact Or.inr rfl) (je_split (je_var 0) (je_str)))
    (jss_one (js_ret (je_if (jt_cmpS (op_eqJ hr.units) ref_eq (je_ixS (ix_J hr.units) ref_ix (je_var 2) (je_int) (fun _ _ => rfl)) (je_var 1) (by rfl)) (je_callO O_integers_of hr (by rfl) (ja_cons (je_slice sl_J ref_slice (je_var 2) (jo_some (je_int)) (jo_none)) (ja_nil))) (je_non))))
theorem w_read_vocabulary_lines (C : Cn K mg) (O_numbers_behind : OkF P w K mg base 3 "numbers_behind" [("row" : PySem.Str), ("word" : PySem.Str)] m_numbers_behind) (O_are_letters : OkF P w K mg base 1 "are_letters" [("thing" : PySem.Str)] m_are_letters) (O_is_vocabulary_value : OkF P w K mg base 4 "is_vocabulary_value" [("thing" : PySem.Str)] m_is_vocabulary_value) {fd : FuncData} {dvs : List V} (F : FunD K "read_vocabulary_lines" "read_vocabulary_lines" (defArgs Hd.s_read_vocabulary_lines) (defBody Hd.s_read_vocabulary_lines) (defScope Hd.s_read_vocabulary_lines) dvs [] (He.ga K "read_vocabulary_lines") fd) : FnOk P w K mg base CX0 5 (He.ga K "read_vocabulary_lines") fd [("rows" : PySem.Str)] (spF K m_read_vocabulary_lines) :=
  ok_def F sc_read_vocabulary_lines fun cdv A outer s H E hr => by
   exact jss_cons (js_set 1 sc_read_vocabulary_lines.nd rfl (by first | exact Or.inl rfl | exact Or.inr rfl) (je_split (je_ixS (ix_J hr.units) ref_ix (je_var 0) (je_int) (fun _ _ => rfl)) (je_str)))
    (jss_cons (js_if (jt_w (jw_or (jt_cmpS (op_neJ hr.units) ref_ne (je_callB call_lenJ ref_len (by rfl) C.n_len bt_len (ja_cons (je_var 1) (ja_nil))) (je_int) (by rfl)) (jw_or (jt_cmpS (op_neJ hr.units) ref_ne (je_ixS (ix_J hr.units) ref_ix (je_var 1) (je_int) (fun _ _ => rfl)) (je_str) (by rfl)) (jw_or1 (jt_not (jt_val (je_callO O_are_letters (hr.mono (by decide)) (by rfl) (ja_cons (je_ixS (ix_J hr.units) ref_ix (je_var 1) (je_int) (fun _ _ => rfl)) (ja_nil))))))))) (jss_one (js_ret (je_tup (ja_cons (je_non) (ja_cons (je_int) (ja_nil))) (len_cons (len_cons len_nil)) (by decide)))) (jss_nil))
    (jss_cons (js_set 2 sc_read_vocabulary_lines.nd rfl (by first | exact Or.inl rfl | exact Or.inr rfl) (je_tup (ja_cons (je_gstr (by rfl) C.c_VOCABULARY) (ja_cons (je_ixS (ix_J hr.units) ref_ix (je_var 1) (je_int) (fun _ _ => rfl)) (ja_cons (je_tup (ja_nil) len_nil (by decide)) (ja_nil)))) (len_cons (len_cons (len_cons len_nil))) (by decide)))
    (jss_cons (js_for PassesOwn.never rfl (ji_enum (by rfl) C.n_enumerate (je_slice sl_J ref_slice (je_var 0) (jo_some (je_int)) (jo_none))) (jg_tp rfl (jgs_cons (jg_nm 3 sc_read_vocabulary_lines.nd rfl (by first | exact Or.inl rfl | exact Or.inr rfl)) (jgs_cons (jg_nm 4 sc_read_vocabulary_lines.nd rfl (by first | exact Or.inl rfl | exact Or.inr rfl)) (jgs_nil)))) (jss_cons (js_set 5 sc_read_vocabulary_lines.nd rfl (by first | exact Or.inl rfl | exact Or.inr rfl) (je_callO O_numbers_behind (hr.mono (by decide)) (by rfl) (ja_cons (je_var 4) (ja_cons (je_str) (ja_nil)))))
    (jss_cons (js_set 6 sc_read_vocabulary_lines.nd rfl (by first | exact Or.inl rfl | exact Or.inr rfl) (je_if (jt_cmp op_isN ref_is (je_var 5) (je_non) (by rfl)) (je_non) (je_tup (ja_cons (je_gstr (by rfl) C.c_VOCABULARY) (ja_cons (je_ixS (ix_J hr.units) ref_ix (je_var 1) (je_int) (fun _ _ => rfl)) (ja_cons (je_op op_addJ ref_add (je_ixS (ix_J hr.units) ref_ix (je_var 2) (je_int) (fun _ _ => rfl)) (je_tup (ja_cons (je_var 5) (ja_nil)) (len_cons len_nil) (by decide))) (ja_nil)))) (len_cons (len_cons (len_cons len_nil))) (by decide))))
    (jss_cons (js_if (jt_w (jw_or (jt_cmp op_isN ref_is (je_var 6) (je_non) (by rfl)) (jw_or1 (jt_not (jt_val (je_callO O_is_vocabulary_value hr (by rfl) (ja_cons (je_var 6) (ja_nil)))))))) (jss_one (js_ret (je_tup (ja_cons (je_non) (ja_cons (je_op op_addJ ref_add (je_var 3) (je_int)) (ja_nil))) (len_cons (len_cons len_nil)) (by decide)))) (jss_nil))
    (jss_one (js_set 2 sc_read_vocabulary_lines.nd rfl (by first | exact Or.inl rfl | exact Or.inr rfl) (je_var 6)))))))
    (jss_one (js_ret (je_tup (ja_cons (je_var 2) (ja_cons (je_non) (ja_nil))) (len_cons (len_cons len_nil)) (by decide)))))))
theorem w_entry_of (C : Cn K mg) (O_numbers_behind : OkF P w K mg base 3 "numbers_behind" [("row" : PySem.Str), ("word" : PySem.Str)] m_numbers_behind) (O_integers_of : OkF P w K mg base 2 "integers_of" [("words" : PySem.Str)] m_integers_of) {fd : FuncData} {dvs : List V} (F : FunD K "entry_of" "entry_of" (defArgs Hd.s_entry_of) (defBody Hd.s_entry_of) (defScope Hd.s_entry_of) dvs [] (He.ga K "entry_of") fd) : FnOk P w K mg base CX0 4 (He.ga K "entry_of") fd [("row" : PySem.Str)] (spF K m_entry_of) :=
  ok_def F sc_entry_of fun cdv A outer s H E hr => by
   exact jss_cons (js_set 1 sc_entry_of.nd rfl (by first | exact Or.inl rfl | exact Or.inr rfl) (je_split (je_var 0) (je_str)))
    (jss_cons (js_if (jt_w (jw_or (jt_cmpS (op_neJ hr.units) ref_ne (je_callB call_lenJ ref_len (by rfl) C.n_len bt_len (ja_cons (je_var 1) (ja_nil))) (je_int) (by rfl)) (jw_or1 (jt_cmpS (op_neJ hr.units) ref_ne (je_slice sl_J ref_slice (je_ixS (ix_J hr.units) ref_ix (je_var 1) (je_int) (fun _ _ => rfl)) (jo_none) (jo_some (je_int))) (je_str) (by rfl))))) (jss_one (js_ret (je_non))) (jss_nil))
    (jss_cons (js_par 2 3 rfl sc_entry_of.nd rfl rfl (by decide) rfl rfl (je_callO O_numbers_behind hr (by rfl) (ja_cons (je_ixS (ix_J hr.units) ref_ix (je_var 1) (je_int) (fun _ _ => rfl)) (ja_cons (je_str) (ja_nil)))) (je_callO O_integers_of (hr.mono (by decide)) (by rfl) (ja_cons (je_split (je_slice sl_J ref_slice (je_ixS (ix_J hr.units) ref_ix (je_var 1) (je_int) (fun _ _ => rfl)) (jo_some (je_int)) (jo_none)) (je_str)) (ja_nil))) (by rfl))
    (jss_one (js_ret (je_if (jt_w (jw_or (jt_cmp op_isN ref_is (je_var 2) (je_non) (by rfl)) (jw_or1 (jt_cmp op_isN ref_is (je_var 3) (je_non) (by rfl))))) (je_non) (je_tup (ja_cons (je_var 2) (ja_cons (je_var 3) (ja_nil))) (len_cons (len_cons len_nil)) (by decide)))))))
theorem w_read_window_lines (C : Cn K mg) (O_numbers_behind : OkF P w K mg base 3 "numbers_behind" [("row" : PySem.Str), ("word" : PySem.Str)] m_numbers_behind) (O_entry_of : OkF P w K mg base 4 "entry_of" [("row" : PySem.Str)] m_entry_of) (O_is_model_value : OkF P w K mg base 6 "is_model_value" [("thing" : PySem.Str)] m_is_model_value) {fd : FuncData} {dvs : List V} (F : FunD K "read_window_lines" "read_window_lines" (defArgs Hd.s_read_window_lines) (defBody Hd.s_read_window_lines) (defScope Hd.s_read_window_lines) dvs [] (He.ga K "read_window_lines") fd) : FnOk P w K mg base CX0 7 (He.ga K "read_window_lines") fd [("rows" : PySem.Str)] (spF K m_read_window_lines) :=
  ok_def F sc_read_window_lines fun cdv A outer s H E hr => by
   exact jss_cons (js_set 1 sc_read_window_lines.nd rfl (by first | exact Or.inl rfl | exact Or.inr rfl) (je_callO O_numbers_behind (hr.mono (by decide)) (by rfl) (ja_cons (je_ixS (ix_J hr.units) ref_ix (je_var 0) (je_int) (fun _ _ => rfl)) (ja_cons (je_gstr (by rfl) C.c_WINDOW) (ja_nil)))))
    (jss_cons (js_if (jt_w (jw_or (jt_cmpS (op_neJ hr.units) ref_ne (je_callB call_lenJ ref_len (by rfl) C.n_len bt_len (ja_cons (je_var 1) (ja_nil))) (je_int) (by rfl)) (jw_or (jt_cmp (op_ltJ hr.units0) ref_lt (je_ixS (ix_J hr.units) ref_ix (je_var 1) (je_int) (fun _ _ => rfl)) (je_int) (by rfl)) (jw_or1 (jt_cmp (op_ltJ hr.units0) ref_lt (je_ixS (ix_J hr.units) ref_ix (je_var 1) (je_int) (fun _ _ => rfl)) (je_int) (by rfl)))))) (jss_one (js_ret (je_tup (ja_cons (je_non) (ja_cons (je_int) (ja_nil))) (len_cons (len_cons len_nil)) (by decide)))) (jss_nil))
    (jss_cons (js_set 2 sc_read_window_lines.nd rfl (by first | exact Or.inl rfl | exact Or.inr rfl) (je_if (jt_cmp op_gt ref_gt (je_callB call_lenJ ref_len (by rfl) C.n_len bt_len (ja_cons (je_var 0) (ja_nil))) (je_int) (by rfl)) (je_callO O_numbers_behind (hr.mono (by decide)) (by rfl) (ja_cons (je_ixS (ix_J hr.units) ref_ix (je_var 0) (je_int) (fun _ _ => rfl)) (ja_cons (je_str) (ja_nil)))) (je_non)))
    (jss_cons (js_set 3 sc_read_window_lines.nd rfl (by first | exact Or.inl rfl | exact Or.inr rfl) (je_if (jt_cmp op_isN ref_is (je_var 2) (je_non) (by rfl)) (je_non) (je_op op_addJ ref_add (je_op op_addJ ref_add (je_tup (ja_cons (je_gstr (by rfl) C.c_WINDOW) (ja_nil)) (len_cons len_nil) (by decide)) (je_var 1)) (je_tup (ja_cons (je_tup (ja_nil) len_nil (by decide)) (ja_cons (je_var 2) (ja_nil))) (len_cons (len_cons len_nil)) (by decide)))))
    (jss_cons (js_if (jt_w (jw_or (jt_cmp op_isN ref_is (je_var 3) (je_non) (by rfl)) (jw_or1 (jt_not (jt_val (je_callO O_is_model_value hr (by rfl) (ja_cons (je_var 3) (ja_nil)))))))) (jss_one (js_ret (je_tup (ja_cons (je_non) (ja_cons (je_int) (ja_nil))) (len_cons (len_cons len_nil)) (by decide)))) (jss_nil))
    (jss_cons (js_for PassesOwn.never rfl (ji_enum (by rfl) C.n_enumerate (je_slice sl_J ref_slice (je_var 0) (jo_some (je_int)) (jo_none))) (jg_tp rfl (jgs_cons (jg_nm 4 sc_read_window_lines.nd rfl (by first | exact Or.inl rfl | exact Or.inr rfl)) (jgs_cons (jg_nm 5 sc_read_window_lines.nd rfl (by first | exact Or.inl rfl | exact Or.inr rfl)) (jgs_nil)))) (jss_cons (js_set 6 sc_read_window_lines.nd rfl (by first | exact Or.inl rfl | exact Or.inr rfl) (je_callO O_entry_of (hr.mono (by decide)) (by rfl) (ja_cons (je_var 5) (ja_nil))))
    (jss_cons (js_set 7 sc_read_window_lines.nd rfl (by first | exact Or.inl rfl | exact Or.inr rfl) (je_if (jt_cmp op_isN ref_is (je_var 6) (je_non) (by rfl)) (je_non) (je_op op_addJ ref_add (je_op op_addJ ref_add (je_slice sl_J ref_slice (je_var 3) (jo_none) (jo_some (je_int))) (je_tup (ja_cons (je_op op_addJ ref_add (je_ixS (ix_J hr.units) ref_ix (je_var 3) (je_int) (fun _ _ => rfl)) (je_tup (ja_cons (je_var 6) (ja_nil)) (len_cons len_nil) (by decide))) (ja_nil)) (len_cons len_nil) (by decide))) (je_slice sl_J ref_slice (je_var 3) (jo_some (je_int)) (jo_none)))))
    (jss_cons (js_if (jt_w (jw_or (jt_cmp op_isN ref_is (je_var 7) (je_non) (by rfl)) (jw_or1 (jt_not (jt_val (je_callO O_is_model_value hr (by rfl) (ja_cons (je_var 7) (ja_nil)))))))) (jss_one (js_ret (je_tup (ja_cons (je_non) (ja_cons (je_op op_addJ ref_add (je_var 4) (je_int)) (ja_nil))) (len_cons (len_cons len_nil)) (by decide)))) (jss_nil))
    (jss_one (js_set 3 sc_read_window_lines.nd rfl (by first | exact Or.inl rfl | exact Or.inr rfl) (je_var 7)))))))
    (jss_one (js_ret (je_tup (ja_cons (je_var 3) (ja_cons (je_non) (ja_nil))) (len_cons (len_cons len_nil)) (by decide)))))))))
theorem w_taken_from (C : Cn K mg) (O_numbers_behind : OkF P w K mg base 3 "numbers_behind" [("row" : PySem.Str), ("word" : PySem.Str)] m_numbers_behind) {fd : FuncData} {dvs : List V} (F : FunD K "taken_from" "taken_from" (defArgs Hd.s_taken_from) (defBody Hd.s_taken_from) (defScope Hd.s_taken_from) dvs [] (He.ga K "taken_from") fd) : FnOk P w K mg base CX0 4 (He.ga K "taken_from") fd [("rows" : PySem.Str), ("at" : PySem.Str), ("word" : PySem.Str), ("most" : PySem.Str), ("d" : PySem.Str)] (spF K m_taken_from) :=
  ok_def F sc_taken_from fun cdv A outer s H E hr => by
   exact jss_cons (js_own 5 sc_taken_from.nd rfl (by first | exact Or.inl rfl | exact Or.inr rfl) (jf_lst (ja_nil) len_nil (by decide)))
    (jss_cons (js_while 4000 PassesOwn.never (jt_w (jw_and (jt_cmp (op_ltJ hr.units0) ref_lt (je_var 1) (je_callB call_lenJ ref_len (by rfl) C.n_len bt_len (ja_cons (je_var 0) (ja_nil))) (by rfl)) (jw_and1 (jt_cmp (op_ltJ hr.units0) ref_lt (je_callB call_lenJ ref_len (by rfl) C.n_len bt_len (ja_cons (je_var 5) (ja_nil))) (je_var 3) (by rfl))))) (jss_cons (js_set 6 sc_taken_from.nd rfl (by first | exact Or.inl rfl | exact Or.inr rfl) (je_callO O_numbers_behind hr (by rfl) (ja_cons (je_ixS (ix_J hr.units) ref_ix (je_var 0) (je_var 1) (fun _ _ => rfl)) (ja_cons (je_var 2) (ja_nil)))))
    (jss_cons (js_if (jt_w (jw_or (jt_cmp op_isN ref_is (je_var 6) (je_non) (by rfl)) (jw_or1 (jt_cmpS (op_neJ hr.units) ref_ne (je_callB call_lenJ ref_len (by rfl) C.n_len bt_len (ja_cons (je_var 6) (ja_nil))) (je_var 4) (by rfl))))) (jss_one (js_brk)) (jss_nil))
    (jss_cons (js_app 5 rfl (by first | exact Or.inl rfl | exact Or.inr (Or.inl rfl) | exact Or.inr (Or.inr rfl)) (je_var 6))
    (jss_one (js_aug 1 sc_taken_from.nd rfl (by first | exact Or.inl rfl | exact Or.inr rfl) iop_add ref_iadd (je_int)))))))
    (jss_one (js_ret (je_tup (ja_cons (je_callTy call_tuple_of ref_tuple (by rfl) C.n_tuple bt_tuple (ja_cons (je_var 5) (ja_nil))) (ja_cons (je_var 1) (ja_nil))) (len_cons (len_cons len_nil)) (by decide)))))
theorem w_read_net_lines (C : Cn K mg) (O_numbers_behind : OkF P w K mg base 3 "numbers_behind" [("row" : PySem.Str), ("word" : PySem.Str)] m_numbers_behind) (O_taken_from : OkF P w K mg base 4 "taken_from" [("rows" : PySem.Str), ("at" : PySem.Str), ("word" : PySem.Str), ("most" : PySem.Str), ("d" : PySem.Str)] m_taken_from) {fd : FuncData} {dvs : List V} (F : FunD K "read_net_lines" "read_net_lines" (defArgs Hd.s_read_net_lines) (defBody Hd.s_read_net_lines) (defScope Hd.s_read_net_lines) dvs [] (He.ga K "read_net_lines") fd) : FnOk P w K mg base CX0 5 (He.ga K "read_net_lines") fd [("rows" : PySem.Str)] (spF K m_read_net_lines) :=
  ok_def F sc_read_net_lines fun cdv A outer s H E hr => by
   exact jss_cons (js_set 1 sc_read_net_lines.nd rfl (by first | exact Or.inl rfl | exact Or.inr rfl) (je_callO O_numbers_behind (hr.mono (by decide)) (by rfl) (ja_cons (je_ixS (ix_J hr.units) ref_ix (je_var 0) (je_int) (fun _ _ => rfl)) (ja_cons (je_gstr (by rfl) C.c_NET) (ja_nil)))))
    (jss_cons (js_if (jt_w (jw_or (jt_cmpS (op_neJ hr.units) ref_ne (je_callB call_lenJ ref_len (by rfl) C.n_len bt_len (ja_cons (je_var 1) (ja_nil))) (je_int) (by rfl)) (jw_or (jt_cmp (op_ltJ hr.units0) ref_lt (je_ixS (ix_J hr.units) ref_ix (je_var 1) (je_int) (fun _ _ => rfl)) (je_int) (by rfl)) (jw_or1 (jt_cmp (op_ltJ hr.units0) ref_lt (je_ixS (ix_J hr.units) ref_ix (je_var 1) (je_int) (fun _ _ => rfl)) (je_int) (by rfl)))))) (jss_one (js_ret (je_tup (ja_cons (je_non) (ja_cons (je_int) (ja_nil))) (len_cons (len_cons len_nil)) (by decide)))) (jss_nil))
    (jss_cons (js_asg (je_var 1) (jg_tp rfl (jgs_cons (jg_nm 2 sc_read_net_lines.nd rfl (by first | exact Or.inl rfl | exact Or.inr rfl)) (jgs_cons (jg_nm 3 sc_read_net_lines.nd rfl (by first | exact Or.inl rfl | exact Or.inr rfl)) (jgs_nil)))))
    (jss_cons (js_asg (je_callO O_taken_from hr (by rfl) (ja_cons (je_var 0) (ja_cons (je_int) (ja_cons (je_str) (ja_cons (je_var 2) (ja_cons (je_var 3) (ja_nil))))))) (jg_tp rfl (jgs_cons (jg_nm 4 sc_read_net_lines.nd rfl (by first | exact Or.inl rfl | exact Or.inr rfl)) (jgs_cons (jg_nm 5 sc_read_net_lines.nd rfl (by first | exact Or.inl rfl | exact Or.inr rfl)) (jgs_nil)))))
    (jss_cons (js_if (jt_cmp (op_ltJ hr.units0) ref_lt (je_callB call_lenJ ref_len (by rfl) C.n_len bt_len (ja_cons (je_var 4) (ja_nil))) (je_var 2) (by rfl)) (jss_one (js_ret (je_tup (ja_cons (je_non) (ja_cons (je_var 5) (ja_nil))) (len_cons (len_cons len_nil)) (by decide)))) (jss_nil))
    (jss_cons (js_asg (je_callO O_taken_from hr (by rfl) (ja_cons (je_var 0) (ja_cons (je_var 5) (ja_cons (je_str) (ja_cons (je_callB call_lenJ ref_len (by rfl) C.n_len bt_len (ja_cons (je_var 0) (ja_nil))) (ja_cons (je_var 3) (ja_nil))))))) (jg_tp rfl (jgs_cons (jg_nm 6 sc_read_net_lines.nd rfl (by first | exact Or.inl rfl | exact Or.inr rfl)) (jgs_cons (jg_nm 5 sc_read_net_lines.nd rfl (by first | exact Or.inl rfl | exact Or.inr rfl)) (jgs_nil)))))
    (jss_cons (js_if (jt_cmpS (op_eqJ hr.units) ref_eq (je_var 6) (je_tup (ja_nil) len_nil (by decide)) (by rfl)) (jss_one (js_ret (je_tup (ja_cons (je_non) (ja_cons (je_var 5) (ja_nil))) (len_cons (len_cons len_nil)) (by decide)))) (jss_nil))
    (jss_cons (js_set 7 sc_read_net_lines.nd rfl (by first | exact Or.inl rfl | exact Or.inr rfl) (je_tup (ja_nil) len_nil (by decide)))
    (jss_cons (js_while 4000 PassesOwn.never (jt_w (jw_and (jt_cmp (op_ltJ hr.units0) ref_lt (je_var 5) (je_callB call_lenJ ref_len (by rfl) C.n_len bt_len (ja_cons (je_var 0) (ja_nil))) (by rfl)) (jw_and1 (jt_cmpS (op_eqJ hr.units) ref_eq (je_ixS (ix_J hr.units) ref_ix (je_split (je_ixS (ix_J hr.units) ref_ix (je_var 0) (je_var 5) (fun _ _ => rfl)) (je_str)) (je_int) (fun _ _ => rfl)) (je_ixS (ix_J hr.units) ref_ix (je_gtup (by rfl) C.c_KINDS C.t_KINDS) (je_int) (fun _ _ => rfl)) (by rfl))))) (jss_cons (js_set 8 sc_read_net_lines.nd rfl (by first | exact Or.inl rfl | exact Or.inr rfl) (je_tup (ja_nil) len_nil (by decide)))
    (jss_cons (js_for PassesOwn.never rfl (ji_seq (je_gtup (by rfl) C.c_KINDS C.t_KINDS)) (jg_nm 9 sc_read_net_lines.nd rfl (by first | exact Or.inl rfl | exact Or.inr rfl)) (jss_cons (js_asg (je_callO O_taken_from hr (by rfl) (ja_cons (je_var 0) (ja_cons (je_var 5) (ja_cons (je_var 9) (ja_cons (je_var 3) (ja_cons (je_var 3) (ja_nil))))))) (jg_tp rfl (jgs_cons (jg_nm 10 sc_read_net_lines.nd rfl (by first | exact Or.inl rfl | exact Or.inr rfl)) (jgs_cons (jg_nm 5 sc_read_net_lines.nd rfl (by first | exact Or.inl rfl | exact Or.inr rfl)) (jgs_nil)))))
    (jss_cons (js_if (jt_cmp (op_ltJ hr.units0) ref_lt (je_callB call_lenJ ref_len (by rfl) C.n_len bt_len (ja_cons (je_var 10) (ja_nil))) (je_var 3) (by rfl)) (jss_one (js_ret (je_tup (ja_cons (je_non) (ja_cons (je_var 5) (ja_nil))) (len_cons (len_cons len_nil)) (by decide)))) (jss_nil))
    (jss_one (js_set 8 sc_read_net_lines.nd rfl (by first | exact Or.inl rfl | exact Or.inr rfl) (je_op op_addJ ref_add (je_var 8) (je_tup (ja_cons (je_var 10) (ja_nil)) (len_cons len_nil) (by decide))))))))
    (jss_one (js_set 7 sc_read_net_lines.nd rfl (by first | exact Or.inl rfl | exact Or.inr rfl) (je_op op_addJ ref_add (je_var 7) (je_tup (ja_cons (je_var 8) (ja_nil)) (len_cons len_nil) (by decide))))))))
    (jss_cons (js_asg (je_callO O_taken_from hr (by rfl) (ja_cons (je_var 0) (ja_cons (je_var 5) (ja_cons (je_str) (ja_cons (je_var 2) (ja_cons (je_var 3) (ja_nil))))))) (jg_tp rfl (jgs_cons (jg_nm 11 sc_read_net_lines.nd rfl (by first | exact Or.inl rfl | exact Or.inr rfl)) (jgs_cons (jg_nm 5 sc_read_net_lines.nd rfl (by first | exact Or.inl rfl | exact Or.inr rfl)) (jgs_nil)))))
    (jss_cons (js_if (jt_w (jw_or (jt_cmp (op_ltJ hr.units0) ref_lt (je_callB call_lenJ ref_len (by rfl) C.n_len bt_len (ja_cons (je_var 11) (ja_nil))) (je_var 2) (by rfl)) (jw_or1 (jt_cmp (op_ltJ hr.units0) ref_lt (je_var 5) (je_callB call_lenJ ref_len (by rfl) C.n_len bt_len (ja_cons (je_var 0) (ja_nil))) (by rfl))))) (jss_one (js_ret (je_tup (ja_cons (je_non) (ja_cons (je_var 5) (ja_nil))) (len_cons (len_cons len_nil)) (by decide)))) (jss_nil))
    (jss_one (js_ret (je_tup (ja_cons (je_tup (ja_cons (je_gstr (by rfl) C.c_NET) (ja_cons (je_var 2) (ja_cons (je_var 3) (ja_cons (je_var 4) (ja_cons (je_var 6) (ja_cons (je_var 7) (ja_cons (je_var 11) (ja_nil)))))))) (len_cons (len_cons (len_cons (len_cons (len_cons (len_cons (len_cons len_nil))))))) (by decide)) (ja_cons (je_non) (ja_nil))) (len_cons (len_cons len_nil)) (by decide))))))))))))))
theorem w_read_model_lines (C : Cn K mg) (O_numbers_behind : OkF P w K mg base 3 "numbers_behind" [("row" : PySem.Str), ("word" : PySem.Str)] m_numbers_behind) (O_read_window_lines : OkF P w K mg base 7 "read_window_lines" [("rows" : PySem.Str)] m_read_window_lines) (O_read_net_lines : OkF P w K mg base 5 "read_net_lines" [("rows" : PySem.Str)] m_read_net_lines) {fd : FuncData} {dvs : List V} (F : FunD K "read_model_lines" "read_model_lines" (defArgs Hd.s_read_model_lines) (defBody Hd.s_read_model_lines) (defScope Hd.s_read_model_lines) dvs [] (He.ga K "read_model_lines") fd) : FnOk P w K mg base CX0 8 (He.ga K "read_model_lines") fd [("rows" : PySem.Str)] (spF K m_read_model_lines) :=
  ok_def F sc_read_model_lines fun cdv A outer s H E hr => by
   exact jss_cons (js_if (jt_cmp op_notN ref_isnot (je_callO O_numbers_behind (hr.mono (by decide)) (by rfl) (ja_cons (je_ixS (ix_J hr.units) ref_ix (je_var 0) (je_int) (fun _ _ => rfl)) (ja_cons (je_gstr (by rfl) C.c_WINDOW) (ja_nil)))) (je_non) (by rfl)) (jss_one (js_ret (je_callO O_read_window_lines hr (by rfl) (ja_cons (je_var 0) (ja_nil))))) (jss_nil))
    (jss_cons (js_if (jt_cmp op_notN ref_isnot (je_callO O_numbers_behind (hr.mono (by decide)) (by rfl) (ja_cons (je_ixS (ix_J hr.units) ref_ix (je_var 0) (je_int) (fun _ _ => rfl)) (ja_cons (je_gstr (by rfl) C.c_NET) (ja_nil)))) (je_non) (by rfl)) (jss_one (js_ret (je_callO O_read_net_lines (hr.mono (by decide)) (by rfl) (ja_cons (je_var 0) (ja_nil))))) (jss_nil))
    (jss_one (js_ret (je_tup (ja_cons (je_non) (ja_cons (je_int) (ja_nil))) (len_cons (len_cons len_nil)) (by decide)))))
theorem w_model_text (C : Cn K mg) (O_need_model : OkF P w K mg base 7 "need_model" [("thing" : PySem.Str)] m_need_model) (O_model_lines : OkF P w K mg base 2 "model_lines" [("model" : PySem.Str)] m_model_lines) {fd : FuncData} {dvs : List V} (F : FunD K "model_text" "model_text" (defArgs Hd.s_model_text) (defBody Hd.s_model_text) (defScope Hd.s_model_text) dvs [] (He.ga K "model_text") fd) : FnOk P w K mg base CX0 8 (He.ga K "model_text") fd [("model" : PySem.Str)] (spF K m_model_text) :=
  ok_def F sc_model_text fun cdv A outer s H E hr => by
   exact jss_cons (js_drop (je_callO O_need_model hr (by rfl) (ja_cons (je_var 0) (ja_nil))))
    (jss_one (js_ret (je_join (je_str) (je_callO O_model_lines (hr.mono (by decide)) (by rfl) (ja_cons (je_var 0) (ja_nil))))))
theorem w_vocabulary_text (C : Cn K mg) (O_need_vocabulary : OkF P w K mg base 5 "need_vocabulary" [("thing" : PySem.Str)] m_need_vocabulary) (O_vocabulary_lines : OkF P w K mg base 2 "vocabulary_lines" [("vocabulary" : PySem.Str)] m_vocabulary_lines) {fd : FuncData} {dvs : List V} (F : FunD K "vocabulary_text" "vocabulary_text" (defArgs Hd.s_vocabulary_text) (defBody Hd.s_vocabulary_text) (defScope Hd.s_vocabulary_text) dvs [] (He.ga K "vocabulary_text") fd) : FnOk P w K mg base CX0 6 (He.ga K "vocabulary_text") fd [("vocabulary" : PySem.Str)] (spF K m_vocabulary_text) :=
  ok_def F sc_vocabulary_text fun cdv A outer s H E hr => by
   exact jss_cons (js_drop (je_callO O_need_vocabulary hr (by rfl) (ja_cons (je_var 0) (ja_nil))))
    (jss_one (js_ret (je_join (je_str) (je_callO O_vocabulary_lines (hr.mono (by decide)) (by rfl) (ja_cons (je_var 0) (ja_nil))))))
theorem w_rows_of_text (C : Cn K mg) {fd : FuncData} {dvs : List V} (F : FunD K "rows_of_text" "rows_of_text" (defArgs Hd.s_rows_of_text) (defBody Hd.s_rows_of_text) (defScope Hd.s_rows_of_text) dvs [] (He.ga K "rows_of_text") fd) : FnOk P w K mg base CX0 1 (He.ga K "rows_of_text") fd [("text" : PySem.Str)] (spF K m_rows_of_text) :=
  ok_def F sc_rows_of_text fun cdv A outer s H E hr => by
   exact jss_cons (js_if (jt_not (jt_val (je_isi .str C.n_isinstance C.n_str (je_var 0) (hb := bt_isinstance) (hb2 := bt_str)))) (jss_one (js_never)) (jss_nil))
    (jss_one (js_ret (je_split (je_var 0) (je_str))))
theorem w_read_model (C : Cn K mg) (O_read_model_lines : OkF P w K mg base 8 "read_model_lines" [("rows" : PySem.Str)] m_read_model_lines) (O_rows_of_text : OkF P w K mg base 1 "rows_of_text" [("text" : PySem.Str)] m_rows_of_text) {fd : FuncData} {dvs : List V} (F : FunD K "read_model" "read_model" (defArgs Hd.s_read_model) (defBody Hd.s_read_model) (defScope Hd.s_read_model) dvs [] (He.ga K "read_model") fd) : FnOk P w K mg base CX0 9 (He.ga K "read_model") fd [("text" : PySem.Str)] (spF K m_read_model) :=
  ok_def F sc_read_model fun cdv A outer s H E hr => by
   exact jss_cons (js_asg (je_callO O_read_model_lines hr (by rfl) (ja_cons (je_callO O_rows_of_text (hr.mono (by decide)) (by rfl) (ja_cons (je_var 0) (ja_nil))) (ja_nil))) (jg_tp rfl (jgs_cons (jg_nm 1 sc_read_model.nd rfl (by first | exact Or.inl rfl | exact Or.inr rfl)) (jgs_cons (jg_nm 2 sc_read_model.nd rfl (by first | exact Or.inl rfl | exact Or.inr rfl)) (jgs_nil)))))
    (jss_cons (js_if (jt_cmp op_isN ref_is (je_var 1) (je_non) (by rfl)) (jss_one (js_never)) (jss_nil))
    (jss_one (js_ret (je_var 1))))
theorem w_read_vocabulary (C : Cn K mg) (O_read_vocabulary_lines : OkF P w K mg base 5 "read_vocabulary_lines" [("rows" : PySem.Str)] m_read_vocabulary_lines) (O_rows_of_text : OkF P w K mg base 1 "rows_of_text" [("text" : PySem.Str)] m_rows_of_text) {fd : FuncData} {dvs : List V} (F : FunD K "read_vocabulary" "read_vocabulary" (defArgs Hd.s_read_vocabulary) (defBody Hd.s_read_vocabulary) (defScope Hd.s_read_vocabulary) dvs [] (He.ga K "read_vocabulary") fd) : FnOk P w K mg base CX0 6 (He.ga K "read_vocabulary") fd [("text" : PySem.Str)] (spF K m_read_vocabulary) :=
  ok_def F sc_read_vocabulary fun cdv A outer s H E hr => by
   exact jss_cons (js_asg (je_callO O_read_vocabulary_lines hr (by rfl) (ja_cons (je_callO O_rows_of_text (hr.mono (by decide)) (by rfl) (ja_cons (je_var 0) (ja_nil))) (ja_nil))) (jg_tp rfl (jgs_cons (jg_nm 1 sc_read_vocabulary.nd rfl (by first | exact Or.inl rfl | exact Or.inr rfl)) (jgs_cons (jg_nm 2 sc_read_vocabulary.nd rfl (by first | exact Or.inl rfl | exact Or.inr rfl)) (jgs_nil)))))
    (jss_cons (js_if (jt_cmp op_isN ref_is (je_var 1) (je_non) (by rfl)) (jss_one (js_never)) (jss_nil))
    (jss_one (js_ret (je_var 1))))
theorem w_need_tokens (C : Cn K mg) (O_need_model : OkF P w K mg base 7 "need_model" [("thing" : PySem.Str)] m_need_model) (O_are_model_tokens : OkF P w K mg base 4 "are_model_tokens" [("model" : PySem.Str), ("thing" : PySem.Str)] m_are_model_tokens) {fd : FuncData} {dvs : List V} (F : FunD K "need_tokens" "need_tokens" (defArgs Hd.s_need_tokens) (defBody Hd.s_need_tokens) (defScope Hd.s_need_tokens) dvs [] (He.ga K "need_tokens") fd) : FnOk P w K mg base CX0 8 (He.ga K "need_tokens") fd [("model" : PySem.Str), ("tokens" : PySem.Str)] (spF K m_need_tokens) :=
  ok_def F sc_need_tokens fun cdv A outer s H E hr => by
   exact jss_cons (js_drop (je_callO O_need_model hr (by rfl) (ja_cons (je_var 0) (ja_nil))))
    (jss_one (js_if (jt_not (jt_val (je_callO O_are_model_tokens (hr.mono (by decide)) (by rfl) (ja_cons (je_var 0) (ja_cons (je_var 1) (ja_nil)))))) (jss_one (js_never)) (jss_nil)))
theorem w_model_weights (C : Cn K mg) (O_need_tokens : OkF P w K mg base 8 "need_tokens" [("model" : PySem.Str), ("tokens" : PySem.Str)] m_need_tokens) (O_weights_raw : OkF P w K mg base 7 "weights_raw" [("model" : PySem.Str), ("tokens" : PySem.Str)] m_weights_raw) {fd : FuncData} {dvs : List V} (F : FunD K "model_weights" "model_weights" (defArgs Hd.s_model_weights) (defBody Hd.s_model_weights) (defScope Hd.s_model_weights) dvs [] (He.ga K "model_weights") fd) : FnOk P w K mg base CX0 9 (He.ga K "model_weights") fd [("model" : PySem.Str), ("tokens" : PySem.Str)] (spF K m_model_weights) :=
  ok_def F sc_model_weights fun cdv A outer s H E hr => by
   exact jss_cons (js_drop (je_callO O_need_tokens hr (by rfl) (ja_cons (je_var 0) (ja_cons (je_var 1) (ja_nil)))))
    (jss_one (js_ret (je_callO O_weights_raw (hr.mono (by decide)) (by rfl) (ja_cons (je_var 0) (ja_cons (je_var 1) (ja_nil))))))
theorem w__law_deck (C : Cn K mg) {fd : FuncData} {dvs : List V} (F : FunD K "_law_deck" "_law_deck" (defArgs Hd.s__law_deck) (defBody Hd.s__law_deck) (defScope Hd.s__law_deck) dvs [] (He.ga K "_law_deck") fd) : FnOk P w K mg base CX0 1 (He.ga K "_law_deck") fd [("_law_script" : PySem.Str)] (spF K m__law_deck) :=
  ok_def F sc__law_deck fun cdv A outer s H E hr => by
   exact jss_cons (js_set 1 sc__law_deck.nd rfl (by first | exact Or.inl rfl | exact Or.inr rfl) (je_int))
    (jss_cons (js_for PassesOwn.never rfl (ji_seq (je_slice sl_J ref_slice (je_var 0) (jo_none) (jo_some (je_int)))) (jg_nm 2 sc__law_deck.nd rfl (by first | exact Or.inl rfl | exact Or.inr rfl)) (jss_one (js_set 1 sc__law_deck.nd rfl (by first | exact Or.inl rfl | exact Or.inr rfl) (je_op op_mod ref_mod (je_callTy call_intJ ref_int (by rfl) C.n_int bt_int (ja_cons (je_op op_addJ ref_add (je_op op_addJ ref_add (je_op op_mulJ ref_mul (je_var 1) (je_int)) (je_op op_mod ref_mod (je_callTy call_intJ ref_int (by rfl) C.n_int bt_int (ja_cons (je_var 2) (ja_nil))) (je_int))) (je_int)) (ja_nil))) (je_int)))))
    (jss_one (js_ret (je_dic (dp_cons (je_cell (jf_rev (je_callTy (call_listJ rfl) ref_list (by rfl) C.n_list bt_list (ja_cons (je_slice sl_J ref_slice (je_var 0) (jo_none) (jo_some (je_int))) (ja_nil))))) (dp_cons (je_var 1) (dp_cons (je_int) (dp_nil)))) (fun z => by cases z) (by decide) (by decide +kernel)))))
theorem w__law_draw (C : Cn K mg) {fd : FuncData} {dvs : List V} (F : FunD K "_law_draw" "_law_draw" (defArgs Hd.s__law_draw) (defBody Hd.s__law_draw) (defScope Hd.s__law_draw) dvs [] (He.ga K "_law_draw") fd) : FnOk P w K mg base CX0 1 (He.ga K "_law_draw") fd [("_law_deck_here" : PySem.Str), ("_law_many" : PySem.Str)] (spF K m__law_draw) :=
  ok_def F sc__law_draw fun cdv A outer s H E hr => by
   exact jss_cons (js_put hr.units (je_var 0) (je_str) (je_op op_addJ ref_add (je_ixS (ix_J hr.units) ref_ix (je_var 0) (je_str) (fun _ _ => rfl)) (je_int)))
    (jss_cons (js_set 2 sc__law_draw.nd rfl (by first | exact Or.inl rfl | exact Or.inr rfl) (je_op op_addJ ref_add (je_ixS (ix_J hr.units) ref_ix (je_var 0) (je_str) (fun _ _ => rfl)) (je_op op_mulJ ref_mul (je_int) (je_ixS (ix_J hr.units) ref_ix (je_var 0) (je_str) (fun _ _ => rfl)))))
    (jss_cons (js_if (jt_cmpS (op_neJ hr.units) ref_ne (je_ixS (ix_J hr.units) ref_ix (je_var 0) (je_str) (fun _ _ => rfl)) (je_L (jf_lst (ja_nil) len_nil (by decide))) (by rfl)) (jss_cons (js_set 3 sc__law_draw.nd rfl (by first | exact Or.inl rfl | exact Or.inr rfl) (je_popC (je_ixS (ix_J hr.units) ref_ix (je_var 0) (je_str) (fun _ _ => rfl))))
    (jss_cons (js_if (jt_cmp op_ge ref_ge (je_var 3) (je_op op_pow ref_pow (je_int) (je_int)) (by rfl)) (jss_cons (js_drop (je_appC (je_ixS (ix_J hr.units) ref_ix (je_var 0) (je_str) (fun _ _ => rfl)) (je_op op_fdiv ref_div (je_var 3) (je_callB (call_maxJ rfl) ref_max (by rfl) C.n_max bt_max (ja_cons (je_int) (ja_cons (je_var 1) (ja_nil)))))))
    (jss_one (js_ret (je_op op_mod ref_mod (je_callTy call_intJ ref_int (by rfl) C.n_int bt_int (ja_cons (je_var 3) (ja_nil))) (je_var 1))))) (jss_nil))
    (jss_one (js_set 2 sc__law_draw.nd rfl (by first | exact Or.inl rfl | exact Or.inr rfl) (je_op op_addJ ref_add (je_var 2) (je_op op_mod ref_mod (je_callTy call_intJ ref_int (by rfl) C.n_int bt_int (ja_cons (je_var 3) (ja_nil))) (je_int))))))) (jss_nil))
    (jss_cons (js_set 2 sc__law_draw.nd rfl (by first | exact Or.inl rfl | exact Or.inr rfl) (je_op op_mod ref_mod (je_callTy call_intJ ref_int (by rfl) C.n_int bt_int (ja_cons (je_op op_addJ ref_add (je_op op_mulJ ref_mul (je_var 2) (je_int)) (je_int)) (ja_nil))) (je_int)))
    (jss_cons (js_set 2 sc__law_draw.nd rfl (by first | exact Or.inl rfl | exact Or.inr rfl) (je_op op_mod ref_mod (je_callTy call_intJ ref_int (by rfl) C.n_int bt_int (ja_cons (je_op op_addJ ref_add (je_op op_addJ ref_add (je_op op_mulJ ref_mul (je_var 2) (je_var 2)) (je_op op_mulJ ref_mul (je_int) (je_ixS (ix_J hr.units) ref_ix (je_var 0) (je_str) (fun _ _ => rfl)))) (je_int)) (ja_nil))) (je_int)))
    (jss_cons (js_set 2 sc__law_draw.nd rfl (by first | exact Or.inl rfl | exact Or.inr rfl) (je_op op_mod ref_mod (je_callTy call_intJ ref_int (by rfl) C.n_int bt_int (ja_cons (je_op op_mulJ ref_mul (je_var 2) (je_int)) (ja_nil))) (je_int)))
    (jss_one (js_ret (je_op op_mod ref_mod (je_callTy call_intJ ref_int (by rfl) C.n_int bt_int (ja_cons (je_op op_fdiv ref_div (je_var 2) (je_int)) (ja_nil))) (je_var 1)))))))))
theorem w__law_pick (C : Cn K mg) (O__law_draw : OkF P w K mg base 1 "_law_draw" [("_law_deck_here" : PySem.Str), ("_law_many" : PySem.Str)] m__law_draw) {fd : FuncData} {dvs : List V} (F : FunD K "_law_pick" "_law_pick" (defArgs Hd.s__law_pick) (defBody Hd.s__law_pick) (defScope Hd.s__law_pick) dvs [] (He.ga K "_law_pick") fd) : FnOk P w K mg base CX0 2 (He.ga K "_law_pick") fd [("_law_deck_here" : PySem.Str), ("_law_some" : PySem.Str)] (spF K m__law_pick) :=
  ok_def F sc__law_pick fun cdv A outer s H E hr => by
   exact jss_one (js_ret (je_ixS (ix_J hr.units) ref_ix (je_var 1) (je_callO O__law_draw hr (by rfl) (ja_cons (je_var 0) (ja_cons (je_callB call_lenJ ref_len (by rfl) C.n_len bt_len (ja_cons (je_var 1) (ja_nil))) (ja_nil)))) (fun _ _ => rfl)))
theorem w__law_dot (C : Cn K mg) {fd : FuncData} {dvs : List V} (F : FunD K "_law_dot" "_law_dot" (defArgs Hd.s__law_dot) (defBody Hd.s__law_dot) (defScope Hd.s__law_dot) dvs [] (He.ga K "_law_dot") fd) : FnOk P w K mg base CX0 1 (He.ga K "_law_dot") fd [("_law_one" : PySem.Str), ("_law_other" : PySem.Str)] (spF K m__law_dot) :=
  ok_def F sc__law_dot fun cdv A outer s H E hr => by
   exact jss_one (js_ret (je_callB (call_sumJ rfl) ref_sum (by rfl) C.n_sum bt_sum (ja_cons (je_L (jf_lc (own := [(("_law_a" : PySem.Str), 2), (("_law_b" : PySem.Str), 3)]) rfl sc__law_dot.nd (blkOk_by (N := N__law_dot) (sc := defScope Hd.s__law_dot) (own := [(("_law_a" : PySem.Str), 2), (("_law_b" : PySem.Str), 3)]) (by decide +kernel)) (ji_zip (by rfl) C.n_zip (je_var 0) (je_var 1)) (fun _ _ _ _ _ => jg_tp rfl (jgs_cons (jg_nm 2 sc__law_dot.nd rfl (by first | exact Or.inl rfl | exact Or.inr rfl)) (jgs_cons (jg_nm 3 sc__law_dot.nd rfl (by first | exact Or.inl rfl | exact Or.inr rfl)) (jgs_nil)))) (fun _ _ _ _ _ => jts_nil) (fun _ _ _ _ _ => je_op op_mulJ ref_mul (je_var 2) (je_var 3)) (by decide))) (ja_nil))))
theorem w__law_times (C : Cn K mg) (O__law_dot : OkF P w K mg base 1 "_law_dot" [("_law_one" : PySem.Str), ("_law_other" : PySem.Str)] m__law_dot) {fd : FuncData} {dvs : List V} (F : FunD K "_law_times" "_law_times" (defArgs Hd.s__law_times) (defBody Hd.s__law_times) (defScope Hd.s__law_times) dvs [] (He.ga K "_law_times") fd) : FnOk P w K mg base CX0 2 (He.ga K "_law_times") fd [("_law_matrix" : PySem.Str), ("_law_vector" : PySem.Str)] (spF K m__law_times) :=
  ok_def F sc__law_times fun cdv A outer s H E hr => by
   exact jss_one (js_ret (je_callTy call_tuple_of ref_tuple (by rfl) C.n_tuple bt_tuple (ja_cons (je_L (jf_lc (own := [(("_law_row" : PySem.Str), 2)]) rfl sc__law_times.nd (blkOk_by (N := N__law_times) (sc := defScope Hd.s__law_times) (own := [(("_law_row" : PySem.Str), 2)]) (by decide +kernel)) (ji_seq (je_var 0)) (fun _ _ _ _ _ => jg_nm 2 sc__law_times.nd rfl (by first | exact Or.inl rfl | exact Or.inr rfl)) (fun _ _ _ _ _ => jts_nil) (fun _ _ _ _ _ => je_callO O__law_dot hr (by rfl) (ja_cons (je_var 2) (ja_cons (je_var 1) (ja_nil)))) (by decide))) (ja_nil))))
theorem w__law_clipped (C : Cn K mg) {fd : FuncData} {dvs : List V} (F : FunD K "_law_clipped" "_law_clipped" (defArgs Hd.s__law_clipped) (defBody Hd.s__law_clipped) (defScope Hd.s__law_clipped) dvs [] (He.ga K "_law_clipped") fd) : FnOk P w K mg base CX0 1 (He.ga K "_law_clipped") fd [("_law_one" : PySem.Str), ("_law_other" : PySem.Str)] (spF K m__law_clipped) :=
  ok_def F sc__law_clipped fun cdv A outer s H E hr => by
   exact jss_one (js_ret (je_callTy call_tuple_of ref_tuple (by rfl) C.n_tuple bt_tuple (ja_cons (je_L (jf_lc (own := [(("_law_a" : PySem.Str), 2), (("_law_b" : PySem.Str), 3)]) rfl sc__law_clipped.nd (blkOk_by (N := N__law_clipped) (sc := defScope Hd.s__law_clipped) (own := [(("_law_a" : PySem.Str), 2), (("_law_b" : PySem.Str), 3)]) (by decide +kernel)) (ji_zip (by rfl) C.n_zip (je_var 0) (je_var 1)) (fun _ _ _ _ _ => jg_tp rfl (jgs_cons (jg_nm 2 sc__law_clipped.nd rfl (by first | exact Or.inl rfl | exact Or.inr rfl)) (jgs_cons (jg_nm 3 sc__law_clipped.nd rfl (by first | exact Or.inl rfl | exact Or.inr rfl)) (jgs_nil)))) (fun _ _ _ _ _ => jts_nil) (fun _ _ _ _ _ => je_callB (call_maxJ rfl) ref_max (by rfl) C.n_max bt_max (ja_cons (je_un un_neg ref_neg (je_int)) (ja_cons (je_callB (call_minJ rfl) ref_min (by rfl) C.n_min bt_min (ja_cons (je_int) (ja_cons (je_op op_addJ ref_add (je_var 2) (je_var 3)) (ja_nil)))) (ja_nil)))) (by decide))) (ja_nil))))
theorem w__law_looked (C : Cn K mg) (O__law_times : OkF P w K mg base 2 "_law_times" [("_law_matrix" : PySem.Str), ("_law_vector" : PySem.Str)] m__law_times) (O__law_dot : OkF P w K mg base 1 "_law_dot" [("_law_one" : PySem.Str), ("_law_other" : PySem.Str)] m__law_dot) (O__law_clipped : OkF P w K mg base 1 "_law_clipped" [("_law_one" : PySem.Str), ("_law_other" : PySem.Str)] m__law_clipped) {fd : FuncData} {dvs : List V} (F : FunD K "_law_looked" "_law_looked" (defArgs Hd.s__law_looked) (defBody Hd.s__law_looked) (defScope Hd.s__law_looked) dvs [] (He.ga K "_law_looked") fd) : FnOk P w K mg base CX0 3 (He.ga K "_law_looked") fd [("_law_states" : PySem.Str), ("_law_layer" : PySem.Str)] (spF K m__law_looked) :=
  ok_def F sc__law_looked fun cdv A outer s H E hr => by
   exact jss_cons (js_setLc 2 (own := [(("_law_state" : PySem.Str), 3)]) rfl sc__law_looked.nd rfl rfl (sw_true rfl rfl rfl (by decide +kernel)) (blkOk_by (N := N__law_looked) (sc := defScope Hd.s__law_looked) (own := [(("_law_state" : PySem.Str), 3)]) (by decide +kernel)) (ji_seq (je_var 0)) (fun _ _ _ _ _ => jg_nm 3 sc__law_looked.nd rfl (by first | exact Or.inl rfl | exact Or.inr rfl)) (fun _ _ _ _ _ => jts_nil) (fun _ _ _ _ _ => je_tup (ja_cons (je_callO O__law_times hr (by rfl) (ja_cons (je_ixS (ix_J hr.units) ref_ix (je_var 1) (je_int) (fun _ _ => rfl)) (ja_cons (je_var 3) (ja_nil)))) (ja_cons (je_callO O__law_times hr (by rfl) (ja_cons (je_ixS (ix_J hr.units) ref_ix (je_var 1) (je_int) (fun _ _ => rfl)) (ja_cons (je_var 3) (ja_nil)))) (ja_nil))) (len_cons (len_cons len_nil)) (by decide)) (by decide))
    (jss_cons (js_own 4 sc__law_looked.nd rfl (by first | exact Or.inl rfl | exact Or.inr rfl) (jf_lst (ja_nil) len_nil (by decide)))
    (jss_cons (js_for PassesOwn.never rfl (ji_enum (by rfl) C.n_enumerate (je_var 0)) (jg_tp rfl (jgs_cons (jg_nm 5 sc__law_looked.nd rfl (by first | exact Or.inl rfl | exact Or.inr rfl)) (jgs_cons (jg_nm 3 sc__law_looked.nd rfl (by first | exact Or.inl rfl | exact Or.inr rfl)) (jgs_nil)))) (jss_cons (js_set 6 sc__law_looked.nd rfl (by first | exact Or.inl rfl | exact Or.inr rfl) (je_callO O__law_times hr (by rfl) (ja_cons (je_ixS (ix_J hr.units) ref_ix (je_var 1) (je_int) (fun _ _ => rfl)) (ja_cons (je_var 3) (ja_nil)))))
    (jss_cons (js_set 7 sc__law_looked.nd rfl (by first | exact Or.inl rfl | exact Or.inr rfl) (je_L (jf_lc (own := [(("_law_key" : PySem.Str), 8), (("_law_worth" : PySem.Str), 9)]) rfl sc__law_looked.nd (blkOk_by (N := N__law_looked) (sc := defScope Hd.s__law_looked) (own := [(("_law_key" : PySem.Str), 8), (("_law_worth" : PySem.Str), 9)]) (by decide +kernel)) (ji_seq (je_slice sl_J ref_slice (je_var 2) (jo_none) (jo_some (je_op op_addJ ref_add (je_var 5) (je_int))))) (fun _ _ _ _ _ => jg_tp rfl (jgs_cons (jg_nm 8 sc__law_looked.nd rfl (by first | exact Or.inl rfl | exact Or.inr rfl)) (jgs_cons (jg_nm 9 sc__law_looked.nd rfl (by first | exact Or.inl rfl | exact Or.inr rfl)) (jgs_nil)))) (fun _ _ _ _ _ => jts_nil) (fun _ _ _ _ _ => je_callO O__law_dot (hr.mono (by decide)) (by rfl) (ja_cons (je_var 6) (ja_cons (je_var 8) (ja_nil)))) (by decide))))
    (jss_cons (js_setLc 10 (own := [(("_law_score" : PySem.Str), 11)]) rfl sc__law_looked.nd rfl rfl (sw_true rfl rfl rfl (by decide +kernel)) (blkOk_by (N := N__law_looked) (sc := defScope Hd.s__law_looked) (own := [(("_law_score" : PySem.Str), 11)]) (by decide +kernel)) (ji_seq (je_var 7)) (fun _ _ _ _ _ => jg_nm 11 sc__law_looked.nd rfl (by first | exact Or.inl rfl | exact Or.inr rfl)) (fun _ _ _ _ _ => jts_nil) (fun _ _ _ _ _ => je_op op_shl ref_shl (je_int) (je_callB (call_maxJ rfl) ref_max (by rfl) C.n_max bt_max (ja_cons (je_int) (ja_cons (je_op op_sub ref_sub (je_int) (je_op op_sub ref_sub (je_callB (call_maxJ rfl) ref_max (by rfl) C.n_max bt_max (ja_cons (je_var 7) (ja_nil))) (je_var 11))) (ja_nil))))) (by decide))
    (jss_cons (js_parVO 12 13 rfl sc__law_looked.nd rfl rfl (by decide) rfl rfl (je_callB (call_sumJ rfl) ref_sum (by rfl) C.n_sum bt_sum (ja_cons (je_var 10) (ja_nil))) (jf_lst (ja_nil) len_nil (by decide)) (by rfl))
    (jss_cons (js_for PassesOwn.never rfl (ji_range (by rfl) C.n_range (ja_cons (je_callB call_lenJ ref_len (by rfl) C.n_len bt_len (ja_cons (je_var 3) (ja_nil))) (ja_nil))) (jg_nm 14 sc__law_looked.nd rfl (by first | exact Or.inl rfl | exact Or.inr rfl)) (jss_one (js_app 13 rfl (by first | exact Or.inl rfl | exact Or.inr (Or.inl rfl) | exact Or.inr (Or.inr rfl)) (je_op op_fdiv ref_div (je_callB (call_sumJ rfl) ref_sum (by rfl) C.n_sum bt_sum (ja_cons (je_L (jf_lc (own := [(("_law_share" : PySem.Str), 15), (("_law_pair" : PySem.Str), 16)]) rfl sc__law_looked.nd (blkOk_by (N := N__law_looked) (sc := defScope Hd.s__law_looked) (own := [(("_law_share" : PySem.Str), 15), (("_law_pair" : PySem.Str), 16)]) (by decide +kernel)) (ji_zip (by rfl) C.n_zip (je_var 10) (je_var 2)) (fun _ _ _ _ _ => jg_tp rfl (jgs_cons (jg_nm 15 sc__law_looked.nd rfl (by first | exact Or.inl rfl | exact Or.inr rfl)) (jgs_cons (jg_nm 16 sc__law_looked.nd rfl (by first | exact Or.inl rfl | exact Or.inr rfl)) (jgs_nil)))) (fun _ _ _ _ _ => jts_nil) (fun _ _ _ _ _ => je_op op_mulJ ref_mul (je_var 15) (je_ixS (ix_J hr.units) ref_ix (je_ixS (ix_J hr.units) ref_ix (je_var 16) (je_int) (fun _ _ => rfl)) (je_var 14) (fun _ _ => rfl))) (by decide))) (ja_nil))) (je_var 12)))))
    (jss_one (js_appF 4 rfl (by first | exact Or.inl rfl | exact Or.inr (Or.inl rfl) | exact Or.inr (Or.inr rfl)) (je_callO O__law_clipped (hr.mono (by decide)) (by rfl) (ja_cons (je_var 3) (ja_cons (je_callO O__law_times hr (by rfl) (ja_cons (je_ixS (ix_J hr.units) ref_ix (je_var 1) (je_int) (fun _ _ => rfl)) (ja_cons (je_var 13) (ja_nil)))) (ja_nil))))))))))))
    (jss_one (js_ret (je_tup (ja_cons (je_var 2) (ja_cons (je_var 4) (ja_nil))) (len_cons (len_cons len_nil)) (by decide))))))
theorem w__law_seen (C : Cn K mg) (O__law_clipped : OkF P w K mg base 1 "_law_clipped" [("_law_one" : PySem.Str), ("_law_other" : PySem.Str)] m__law_clipped) (O__law_looked : OkF P w K mg base 3 "_law_looked" [("_law_states" : PySem.Str), ("_law_layer" : PySem.Str)] m__law_looked) (O__law_dot : OkF P w K mg base 1 "_law_dot" [("_law_one" : PySem.Str), ("_law_other" : PySem.Str)] m__law_dot) {fd : FuncData} {dvs : List V} (F : FunD K "_law_seen" "_law_seen" (defArgs Hd.s__law_seen) (defBody Hd.s__law_seen) (defScope Hd.s__law_seen) dvs [] (He.ga K "_law_seen") fd) : FnOk P w K mg base CX0 4 (He.ga K "_law_seen") fd [("_law_model" : PySem.Str), ("_law_tokens" : PySem.Str)] (spF K m__law_seen) :=
  ok_def F sc__law_seen fun cdv A outer s H E hr => by
   exact jss_cons (js_if (jt_cmpS (op_eqJ hr.units) ref_eq (je_ixS (ix_J hr.units) ref_ix (je_var 0) (je_int) (fun _ _ => rfl)) (je_str) (by rfl)) (jss_cons (js_set 2 sc__law_seen.nd rfl (by first | exact Or.inl rfl | exact Or.inr rfl) (je_callTy call_tuple_of ref_tuple (by rfl) C.n_tuple bt_tuple (ja_cons (je_slice sl_J ref_slice (je_var 1) (jo_some (je_callB (call_maxJ rfl) ref_max (by rfl) C.n_max bt_max (ja_cons (je_int) (ja_cons (je_op op_sub ref_sub (je_callB call_lenJ ref_len (by rfl) C.n_len bt_len (ja_cons (je_var 1) (ja_nil))) (je_ixS (ix_J hr.units) ref_ix (je_var 0) (je_int) (fun _ _ => rfl))) (ja_nil))))) (jo_none)) (ja_nil))))
    (jss_cons (js_set 3 sc__law_seen.nd rfl (by first | exact Or.inl rfl | exact Or.inr rfl) (je_op op_addJ ref_add (je_L (jf_lc (own := [(("_law_key" : PySem.Str), 4), (("_law_weights" : PySem.Str), 5)]) rfl sc__law_seen.nd (blkOk_by (N := N__law_seen) (sc := defScope Hd.s__law_seen) (own := [(("_law_key" : PySem.Str), 4), (("_law_weights" : PySem.Str), 5)]) (by decide +kernel)) (ji_seq (je_ixS (ix_J hr.units) ref_ix (je_var 0) (je_int) (fun _ _ => rfl))) (fun _ _ _ _ _ => jg_tp rfl (jgs_cons (jg_nm 4 sc__law_seen.nd rfl (by first | exact Or.inl rfl | exact Or.inr rfl)) (jgs_cons (jg_nm 5 sc__law_seen.nd rfl (by first | exact Or.inl rfl | exact Or.inr rfl)) (jgs_nil)))) (fun _ _ _ _ _ => jts_one (jt_cmpS (op_eqJ hr.units) ref_eq (je_var 4) (je_var 2) (by rfl))) (fun _ _ _ _ _ => je_var 5) (by decide))) (je_L (jf_lst (ja_cons (je_ixS (ix_J hr.units) ref_ix (je_var 0) (je_int) (fun _ _ => rfl)) (ja_nil)) (len_cons len_nil) (by decide)))))
    (jss_one (js_ret (je_tup (ja_cons (je_callTy call_tuple_of ref_tuple (by rfl) C.n_tuple bt_tuple (ja_cons (je_L (jf_lc (own := [(("_law_token" : PySem.Str), 6)]) rfl sc__law_seen.nd (blkOk_by (N := N__law_seen) (sc := defScope Hd.s__law_seen) (own := [(("_law_token" : PySem.Str), 6)]) (by decide +kernel)) (ji_seq (je_var 1)) (fun _ _ _ _ _ => jg_nm 6 sc__law_seen.nd rfl (by first | exact Or.inl rfl | exact Or.inr rfl)) (fun _ _ _ _ _ => jts_nil) (fun _ _ _ _ _ => je_tup (ja_cons (je_var 6) (ja_nil)) (len_cons len_nil) (by decide)) (by decide))) (ja_nil))) (ja_cons (je_ixS (ix_J hr.units) ref_ix (je_var 3) (je_int) (fun _ _ => rfl)) (ja_nil))) (len_cons (len_cons len_nil)) (by decide)))))) (jss_nil))
    (jss_cons (js_set 7 sc__law_seen.nd rfl (by first | exact Or.inl rfl | exact Or.inr rfl) (je_ixS (ix_J hr.units) ref_ix (je_var 0) (je_int) (fun _ _ => rfl)))
    (jss_cons (js_set 8 sc__law_seen.nd rfl (by first | exact Or.inl rfl | exact Or.inr rfl) (je_L (jf_lc (own := [(("_law_p" : PySem.Str), 9), (("_law_token" : PySem.Str), 6)]) rfl sc__law_seen.nd (blkOk_by (N := N__law_seen) (sc := defScope Hd.s__law_seen) (own := [(("_law_p" : PySem.Str), 9), (("_law_token" : PySem.Str), 6)]) (by decide +kernel)) (ji_enum (by rfl) C.n_enumerate (je_var 1)) (fun _ _ _ _ _ => jg_tp rfl (jgs_cons (jg_nm 9 sc__law_seen.nd rfl (by first | exact Or.inl rfl | exact Or.inr rfl)) (jgs_cons (jg_nm 6 sc__law_seen.nd rfl (by first | exact Or.inl rfl | exact Or.inr rfl)) (jgs_nil)))) (fun _ _ _ _ _ => jts_nil) (fun _ _ _ _ _ => je_callO O__law_clipped (hr.mono (by decide)) (by rfl) (ja_cons (je_ixS (ix_J hr.units) ref_ix (je_ixS (ix_J hr.units) ref_ix (je_var 0) (je_int) (fun _ _ => rfl)) (je_var 6) (fun _ _ => rfl)) (ja_cons (je_ixS (ix_J hr.units) ref_ix (je_var 7) (je_op op_mod ref_mod (je_callTy call_intJ ref_int (by rfl) C.n_int bt_int (ja_cons (je_var 9) (ja_nil))) (je_callB call_lenJ ref_len (by rfl) C.n_len bt_len (ja_cons (je_var 7) (ja_nil)))) (fun _ _ => rfl)) (ja_nil)))) (by decide))))
    (jss_cons (js_set 10 sc__law_seen.nd rfl (by first | exact Or.inl rfl | exact Or.inr rfl) (je_op op_mulJ ref_mul (je_L (jf_lst (ja_cons (je_tup (ja_nil) len_nil (by decide)) (ja_nil)) (len_cons len_nil) (by decide))) (je_callB call_lenJ ref_len (by rfl) C.n_len bt_len (ja_cons (je_var 1) (ja_nil)))))
    (jss_cons (js_for PassesOwn.never rfl (ji_seq (je_ixS (ix_J hr.units) ref_ix (je_var 0) (je_int) (fun _ _ => rfl))) (jg_nm 11 sc__law_seen.nd rfl (by first | exact Or.inl rfl | exact Or.inr rfl)) (jss_cons (js_asg (je_callO O__law_looked hr (by rfl) (ja_cons (je_var 8) (ja_cons (je_var 11) (ja_nil)))) (jg_tp rfl (jgs_cons (jg_nm 12 sc__law_seen.nd rfl (by first | exact Or.inl rfl | exact Or.inr rfl)) (jgs_cons (jg_nm 8 sc__law_seen.nd rfl (by first | exact Or.inl rfl | exact Or.inr rfl)) (jgs_nil)))))
    (jss_one (js_setLc 10 (own := [(("_law_row" : PySem.Str), 13), (("_law_pair" : PySem.Str), 14)]) rfl sc__law_seen.nd rfl rfl (sw_true rfl rfl rfl (by decide +kernel)) (blkOk_by (N := N__law_seen) (sc := defScope Hd.s__law_seen) (own := [(("_law_row" : PySem.Str), 13), (("_law_pair" : PySem.Str), 14)]) (by decide +kernel)) (ji_zip (by rfl) C.n_zip (je_var 10) (je_var 12)) (fun _ _ _ _ _ => jg_tp rfl (jgs_cons (jg_nm 13 sc__law_seen.nd rfl (by first | exact Or.inl rfl | exact Or.inr rfl)) (jgs_cons (jg_nm 14 sc__law_seen.nd rfl (by first | exact Or.inl rfl | exact Or.inr rfl)) (jgs_nil)))) (fun _ _ _ _ _ => jts_nil) (fun _ _ _ _ _ => je_op op_addJ ref_add (je_var 13) (je_tup (ja_cons (je_var 14) (ja_nil)) (len_cons len_nil) (by decide))) (by decide)))))
    (jss_cons (js_set 15 sc__law_seen.nd rfl (by first | exact Or.inl rfl | exact Or.inr rfl) (je_L (jf_lc (own := [(("_law_out" : PySem.Str), 16)]) rfl sc__law_seen.nd (blkOk_by (N := N__law_seen) (sc := defScope Hd.s__law_seen) (own := [(("_law_out" : PySem.Str), 16)]) (by decide +kernel)) (ji_seq (je_ixS (ix_J hr.units) ref_ix (je_var 0) (je_int) (fun _ _ => rfl))) (fun _ _ _ _ _ => jg_nm 16 sc__law_seen.nd rfl (by first | exact Or.inl rfl | exact Or.inr rfl)) (fun _ _ _ _ _ => jts_nil) (fun _ _ _ _ _ => je_callO O__law_dot (hr.mono (by decide)) (by rfl) (ja_cons (je_var 16) (ja_cons (je_ixS (ix_J hr.units) ref_ix (je_var 8) (je_un un_neg ref_neg (je_int)) (fun _ _ => rfl)) (ja_nil)))) (by decide))))
    (jss_one (js_ret (je_tup (ja_cons (je_callTy call_tuple_of ref_tuple (by rfl) C.n_tuple bt_tuple (ja_cons (je_var 10) (ja_nil))) (ja_cons (je_callTy call_tuple_of ref_tuple (by rfl) C.n_tuple bt_tuple (ja_cons (je_L (jf_lc (own := [(("_law_product" : PySem.Str), 17)]) rfl sc__law_seen.nd (blkOk_by (N := N__law_seen) (sc := defScope Hd.s__law_seen) (own := [(("_law_product" : PySem.Str), 17)]) (by decide +kernel)) (ji_seq (je_var 15)) (fun _ _ _ _ _ => jg_nm 17 sc__law_seen.nd rfl (by first | exact Or.inl rfl | exact Or.inr rfl)) (fun _ _ _ _ _ => jts_nil) (fun _ _ _ _ _ => je_op op_shl ref_shl (je_int) (je_callB (call_maxJ rfl) ref_max (by rfl) C.n_max bt_max (ja_cons (je_int) (ja_cons (je_op op_sub ref_sub (je_int) (je_op op_sub ref_sub (je_callB (call_maxJ rfl) ref_max (by rfl) C.n_max bt_max (ja_cons (je_var 15) (ja_nil))) (je_var 17))) (ja_nil))))) (by decide))) (ja_nil))) (ja_nil))) (len_cons (len_cons len_nil)) (by decide)))))))))
theorem w__law_some_weights (C : Cn K mg) (O__law_pick : OkF P w K mg base 2 "_law_pick" [("_law_deck_here" : PySem.Str), ("_law_some" : PySem.Str)] m__law_pick) (O__law_draw : OkF P w K mg base 1 "_law_draw" [("_law_deck_here" : PySem.Str), ("_law_many" : PySem.Str)] m__law_draw) {fd : FuncData} {dvs : List V} (F : FunD K "_law_some_weights" "_law_some_weights" (defArgs Hd.s__law_some_weights) (defBody Hd.s__law_some_weights) (defScope Hd.s__law_some_weights) dvs [] (He.ga K "_law_some_weights") fd) : FnOk P w K mg base CX0 3 (He.ga K "_law_some_weights") fd [("_law_deck_here" : PySem.Str), ("_law_many" : PySem.Str)] (spF K m__law_some_weights) :=
  ok_def F sc__law_some_weights fun cdv A outer s H E hr => by
   exact jss_cons (js_setLc 2 (own := [(("_law_token" : PySem.Str), 3)]) rfl sc__law_some_weights.nd rfl rfl (sw_true rfl rfl rfl (by decide +kernel)) (blkOk_by (N := N__law_some_weights) (sc := defScope Hd.s__law_some_weights) (own := [(("_law_token" : PySem.Str), 3)]) (by decide +kernel)) (ji_range (by rfl) C.n_range (ja_cons (je_var 1) (ja_nil))) (fun _ _ _ _ _ => jg_nm 3 sc__law_some_weights.nd rfl (by first | exact Or.inl rfl | exact Or.inr rfl)) (fun _ _ _ _ _ => jts_nil) (fun _ _ _ _ _ => je_callO O__law_pick hr (by rfl) (ja_cons (je_var 0) (ja_cons (je_L (jf_lst (ja_cons (je_int) (ja_cons (je_int) (ja_cons (je_int) (ja_cons (je_int) (ja_cons (je_int) (ja_cons (je_int) (ja_cons (je_op op_addJ ref_add (je_int) (je_callO O__law_draw (hr.mono (by decide)) (by rfl) (ja_cons (je_var 0) (ja_cons (je_int) (ja_nil))))) (ja_nil)))))))) (len_cons (len_cons (len_cons (len_cons (len_cons (len_cons (len_cons len_nil))))))) (by decide))) (ja_nil)))) (by decide))
    (jss_one (js_ret (je_callTy call_tuple_of ref_tuple (by rfl) C.n_tuple bt_tuple (ja_cons (je_if (jt_cmp op_gt ref_gt (je_callB (call_sumJ rfl) ref_sum (by rfl) C.n_sum bt_sum (ja_cons (je_var 2) (ja_nil))) (je_int) (by rfl)) (je_var 2) (je_op op_addJ ref_add (je_L (jf_lst (ja_cons (je_int) (ja_nil)) (len_cons len_nil) (by decide))) (je_slice sl_J ref_slice (je_var 2) (jo_some (je_int)) (jo_none)))) (ja_nil)))))
theorem w__law_window (C : Cn K mg) (O__law_draw : OkF P w K mg base 1 "_law_draw" [("_law_deck_here" : PySem.Str), ("_law_many" : PySem.Str)] m__law_draw) (O__law_some_weights : OkF P w K mg base 3 "_law_some_weights" [("_law_deck_here" : PySem.Str), ("_law_many" : PySem.Str)] m__law_some_weights) (O__law_pick : OkF P w K mg base 2 "_law_pick" [("_law_deck_here" : PySem.Str), ("_law_some" : PySem.Str)] m__law_pick) {fd : FuncData} {dvs : List V} (F : FunD K "_law_window" "_law_window" (defArgs Hd.s__law_window) (defBody Hd.s__law_window) (defScope Hd.s__law_window) dvs [] (He.ga K "_law_window") fd) : FnOk P w K mg base CX0 4 (He.ga K "_law_window") fd [("_law_deck_here" : PySem.Str), ("_law_many" : PySem.Str)] (spF K m__law_window) :=
  ok_def F sc__law_window fun cdv A outer s H E hr => by
   exact jss_cons (js_asg (je_tup (ja_cons (je_callO O__law_draw (hr.mono (by decide)) (by rfl) (ja_cons (je_var 0) (ja_cons (je_int) (ja_nil)))) (ja_cons (je_dicNewT) (ja_nil))) (len_cons (len_cons len_nil)) (by decide)) (jg_tp rfl (jgs_cons (jg_nm 2 sc__law_window.nd rfl (by first | exact Or.inl rfl | exact Or.inr rfl)) (jgs_cons (jg_nm 3 sc__law_window.nd rfl (by first | exact Or.inl rfl | exact Or.inr rfl)) (jgs_nil)))))
    (jss_cons (js_for PassesOwn.never rfl (ji_range (by rfl) C.n_range (ja_cons (je_if (jt_cmp op_gt ref_gt (je_var 2) (je_int) (by rfl)) (je_callO O__law_draw (hr.mono (by decide)) (by rfl) (ja_cons (je_var 0) (ja_cons (je_int) (ja_nil)))) (je_callO O__law_draw (hr.mono (by decide)) (by rfl) (ja_cons (je_var 0) (ja_cons (je_int) (ja_nil))))) (ja_nil))) (jg_nm 4 sc__law_window.nd rfl (by first | exact Or.inl rfl | exact Or.inr rfl)) (jss_cons (js_set 5 sc__law_window.nd rfl (by first | exact Or.inl rfl | exact Or.inr rfl) (je_callTy call_tuple_of ref_tuple (by rfl) C.n_tuple bt_tuple (ja_cons (je_slice sl_J ref_slice (je_L (jf_lc (own := [(("_law_at" : PySem.Str), 6)]) rfl sc__law_window.nd (blkOk_by (N := N__law_window) (sc := defScope Hd.s__law_window) (own := [(("_law_at" : PySem.Str), 6)]) (by decide +kernel)) (ji_range (by rfl) C.n_range (ja_cons (je_callO O__law_pick (hr.mono (by decide)) (by rfl) (ja_cons (je_var 0) (ja_cons (je_slice sl_J ref_slice (je_L (jf_lst (ja_cons (je_var 2) (ja_cons (je_var 2) (ja_cons (je_var 2) (ja_cons (je_int) (ja_cons (je_int) (ja_nil)))))) (len_cons (len_cons (len_cons (len_cons (len_cons len_nil))))) (by decide))) (jo_none) (jo_some (je_op op_addJ ref_add (je_int) (je_var 2)))) (ja_nil)))) (ja_nil))) (fun _ _ _ _ _ => jg_nm 6 sc__law_window.nd rfl (by first | exact Or.inl rfl | exact Or.inr rfl)) (fun _ _ _ _ _ => jts_nil) (fun _ _ _ _ _ => je_callO O__law_draw (hr.mono (by decide)) (by rfl) (ja_cons (je_var 0) (ja_cons (je_var 1) (ja_nil)))) (by decide))) (jo_none) (jo_some (je_var 2))) (ja_nil))))
    (jss_one (js_put hr.units (je_var 3) (je_var 5) (je_callO O__law_some_weights hr (by rfl) (ja_cons (je_var 0) (ja_cons (je_var 1) (ja_nil))))))))
    (jss_one (js_ret (je_tup (ja_cons (je_str) (ja_cons (je_var 1) (ja_cons (je_var 2) (ja_cons (je_callTy call_tuple_of ref_tuple (by rfl) C.n_tuple bt_tuple (ja_cons (je_L (jf_lc (own := [(("_law_last" : PySem.Str), 5)]) rfl sc__law_window.nd (blkOk_by (N := N__law_window) (sc := defScope Hd.s__law_window) (own := [(("_law_last" : PySem.Str), 5)]) (by decide +kernel)) (ji_seq (je_callBS (call_sortedS rfl hr.units) ref_sortedS (by rfl) C.n_sorted bt_sorted (ja_cons (je_var 3) (ja_nil)))) (fun _ _ _ _ _ => jg_nm 5 sc__law_window.nd rfl (by first | exact Or.inl rfl | exact Or.inr rfl)) (fun _ _ _ _ _ => jts_nil) (fun _ _ _ _ _ => je_tup (ja_cons (je_var 5) (ja_cons (je_ixS (ix_J hr.units) ref_ix (je_var 3) (je_var 5) (fun _ _ => rfl)) (ja_nil))) (len_cons (len_cons len_nil)) (by decide)) (by decide))) (ja_nil))) (ja_cons (je_callO O__law_some_weights hr (by rfl) (ja_cons (je_var 0) (ja_cons (je_var 1) (ja_nil)))) (ja_nil)))))) (len_cons (len_cons (len_cons (len_cons (len_cons len_nil))))) (by decide)))))
theorem w__law_vectors (C : Cn K mg) (O__law_draw : OkF P w K mg base 1 "_law_draw" [("_law_deck_here" : PySem.Str), ("_law_many" : PySem.Str)] m__law_draw) {fd : FuncData} {dvs : List V} (F : FunD K "_law_vectors" "_law_vectors" (defArgs Hd.s__law_vectors) (defBody Hd.s__law_vectors) (defScope Hd.s__law_vectors) dvs [] (He.ga K "_law_vectors") fd) : FnOk P w K mg base CX0 2 (He.ga K "_law_vectors") fd [("_law_deck_here" : PySem.Str), ("_law_many" : PySem.Str), ("_law_d" : PySem.Str)] (spF K m__law_vectors) :=
  ok_def F sc__law_vectors fun cdv A outer s H E hr => by
   exact jss_one (js_ret (je_callTy call_tuple_of ref_tuple (by rfl) C.n_tuple bt_tuple (ja_cons (je_L (jf_lc (own := [(("_law_turn" : PySem.Str), 4)]) rfl sc__law_vectors.nd (blkOk_by (N := N__law_vectors) (sc := defScope Hd.s__law_vectors) (own := [(("_law_turn" : PySem.Str), 4)]) (by decide +kernel)) (ji_range (by rfl) C.n_range (ja_cons (je_var 1) (ja_nil))) (fun _ _ _ _ _ => jg_nm 4 sc__law_vectors.nd rfl (by first | exact Or.inl rfl | exact Or.inr rfl)) (fun _ _ _ _ _ => jts_nil) (fun _ _ _ _ _ => je_callTy call_tuple_of ref_tuple (by rfl) C.n_tuple bt_tuple (ja_cons (je_L (jf_lc (own := [(("_law_at" : PySem.Str), 3)]) rfl sc__law_vectors.nd (blkOk_by (own := [(("_law_at" : PySem.Str), 3)]) (by first | decide +kernel | kernel_rfl)) (ji_range (by rfl) C.n_range (ja_cons (je_var 2) (ja_nil))) (fun _ _ _ _ _ => jg_nm 3 sc__law_vectors.nd rfl (by first | exact Or.inl rfl | exact Or.inr rfl)) (fun _ _ _ _ _ => jts_nil) (fun _ _ _ _ _ => je_op op_sub ref_sub (je_callO O__law_draw hr (by rfl) (ja_cons (je_var 0) (ja_cons (je_int) (ja_nil)))) (je_int)) (by decide))) (ja_nil))) (by decide))) (ja_nil))))
theorem w__law_net (C : Cn K mg) (O__law_draw : OkF P w K mg base 1 "_law_draw" [("_law_deck_here" : PySem.Str), ("_law_many" : PySem.Str)] m__law_draw) (O__law_vectors : OkF P w K mg base 2 "_law_vectors" [("_law_deck_here" : PySem.Str), ("_law_many" : PySem.Str), ("_law_d" : PySem.Str)] m__law_vectors) {fd : FuncData} {dvs : List V} (F : FunD K "_law_net" "_law_net" (defArgs Hd.s__law_net) (defBody Hd.s__law_net) (defScope Hd.s__law_net) dvs [] (He.ga K "_law_net") fd) : FnOk P w K mg base CX0 3 (He.ga K "_law_net") fd [("_law_deck_here" : PySem.Str), ("_law_many" : PySem.Str), ("_law_most" : PySem.Str)] (spF K m__law_net) :=
  ok_def F sc__law_net fun cdv A outer s H E hr => by
   exact jss_cons (js_set 3 sc__law_net.nd rfl (by first | exact Or.inl rfl | exact Or.inr rfl) (je_op op_addJ ref_add (je_int) (je_callO O__law_draw (hr.mono (by decide)) (by rfl) (ja_cons (je_var 0) (ja_cons (je_int) (ja_nil))))))
    (jss_cons (js_set 4 sc__law_net.nd rfl (by first | exact Or.inl rfl | exact Or.inr rfl) (je_callTy call_tuple_of ref_tuple (by rfl) C.n_tuple bt_tuple (ja_cons (je_L (jf_lc (own := [(("_law_turn" : PySem.Str), 6)]) rfl sc__law_net.nd (blkOk_by (N := N__law_net) (sc := defScope Hd.s__law_net) (own := [(("_law_turn" : PySem.Str), 6)]) (by decide +kernel)) (ji_range (by rfl) C.n_range (ja_cons (je_op op_addJ ref_add (je_int) (je_callO O__law_draw (hr.mono (by decide)) (by rfl) (ja_cons (je_var 0) (ja_cons (je_var 2) (ja_nil))))) (ja_nil))) (fun _ _ _ _ _ => jg_nm 6 sc__law_net.nd rfl (by first | exact Or.inl rfl | exact Or.inr rfl)) (fun _ _ _ _ _ => jts_nil) (fun _ _ _ _ _ => je_callTy call_tuple_of ref_tuple (by rfl) C.n_tuple bt_tuple (ja_cons (je_L (jf_lc (own := [(("_law_part" : PySem.Str), 5)]) rfl sc__law_net.nd (blkOk_by (own := [(("_law_part" : PySem.Str), 5)]) (by first | decide +kernel | kernel_rfl)) (ji_range (by rfl) C.n_range (ja_cons (je_int) (ja_nil))) (fun _ _ _ _ _ => jg_nm 5 sc__law_net.nd rfl (by first | exact Or.inl rfl | exact Or.inr rfl)) (fun _ _ _ _ _ => jts_nil) (fun _ _ _ _ _ => je_callO O__law_vectors hr (by rfl) (ja_cons (je_var 0) (ja_cons (je_var 3) (ja_cons (je_var 3) (ja_nil))))) (by decide))) (ja_nil))) (by decide))) (ja_nil))))
    (jss_cons (js_par 7 8 rfl sc__law_net.nd rfl rfl (by decide) rfl rfl (je_callO O__law_vectors hr (by rfl) (ja_cons (je_var 0) (ja_cons (je_var 1) (ja_cons (je_var 3) (ja_nil))))) (je_callO O__law_vectors hr (by rfl) (ja_cons (je_var 0) (ja_cons (je_op op_addJ ref_add (je_int) (je_callO O__law_draw (hr.mono (by decide)) (by rfl) (ja_cons (je_var 0) (ja_cons (je_int) (ja_nil))))) (ja_cons (je_var 3) (ja_nil))))) (by rfl))
    (jss_one (js_ret (je_tup (ja_cons (je_str) (ja_cons (je_var 1) (ja_cons (je_var 3) (ja_cons (je_var 7) (ja_cons (je_var 8) (ja_cons (je_var 4) (ja_cons (je_callO O__law_vectors hr (by rfl) (ja_cons (je_var 0) (ja_cons (je_var 1) (ja_cons (je_var 3) (ja_nil))))) (ja_nil)))))))) (len_cons (len_cons (len_cons (len_cons (len_cons (len_cons (len_cons len_nil))))))) (by decide))))))
theorem w__law_vocabulary (C : Cn K mg) (O__law_pick : OkF P w K mg base 2 "_law_pick" [("_law_deck_here" : PySem.Str), ("_law_some" : PySem.Str)] m__law_pick) (O__law_draw : OkF P w K mg base 1 "_law_draw" [("_law_deck_here" : PySem.Str), ("_law_many" : PySem.Str)] m__law_draw) {fd : FuncData} {dvs : List V} (F : FunD K "_law_vocabulary" "_law_vocabulary" (defArgs Hd.s__law_vocabulary) (defBody Hd.s__law_vocabulary) (defScope Hd.s__law_vocabulary) dvs [] (He.ga K "_law_vocabulary") fd) : FnOk P w K mg base CX0 3 (He.ga K "_law_vocabulary") fd [("_law_deck_here" : PySem.Str), ("_law_many" : PySem.Str)] (spF K m__law_vocabulary) :=
  ok_def F sc__law_vocabulary fun cdv A outer s H E hr => by
   exact jss_cons (js_set 2 sc__law_vocabulary.nd rfl (by first | exact Or.inl rfl | exact Or.inr rfl) (je_slice sl_J ref_slice (je_callO O__law_pick hr (by rfl) (ja_cons (je_var 0) (ja_cons (je_L (jf_lst (ja_cons (je_str) (ja_cons (je_str) (ja_cons (je_str) (ja_cons (je_str) (ja_cons (je_str) (ja_nil)))))) (len_cons (len_cons (len_cons (len_cons (len_cons len_nil))))) (by decide))) (ja_nil)))) (jo_none) (jo_some (je_op op_sub ref_sub (je_var 1) (je_int)))))
    (jss_cons (js_parOO 3 4 rfl sc__law_vocabulary.nd rfl rfl (by decide) rfl rfl (jf_lst (ja_nil) len_nil (by decide)) (jf_op op_addJ ref_cat (je_L (jf_lst (ja_cons (je_str) (ja_nil)) (len_cons len_nil) (by decide))) (je_callTy (call_listJ rfl) ref_list (by rfl) C.n_list bt_list (ja_cons (je_var 2) (ja_nil)))) (by rfl))
    (jss_cons (js_while 4000 PassesOwn.never (jt_cmp (op_ltJ hr.units0) ref_lt (je_callB call_lenJ ref_len (by rfl) C.n_len bt_len (ja_cons (je_var 4) (ja_nil))) (je_var 1) (by rfl)) (jss_cons (js_parF 5 6 rfl sc__law_vocabulary.nd rfl rfl (by decide) rfl rfl (je_op op_addJ ref_add (je_int) (je_callO O__law_draw (hr.mono (by decide)) (by rfl) (ja_cons (je_var 0) (ja_cons (je_op op_sub ref_sub (je_callB call_lenJ ref_len (by rfl) C.n_len bt_len (ja_cons (je_var 4) (ja_nil))) (je_int)) (ja_nil))))) (je_op op_addJ ref_add (je_int) (je_callO O__law_draw (hr.mono (by decide)) (by rfl) (ja_cons (je_var 0) (ja_cons (je_op op_sub ref_sub (je_callB call_lenJ ref_len (by rfl) C.n_len bt_len (ja_cons (je_var 4) (ja_nil))) (je_int)) (ja_nil))))) (by rfl))
    (jss_cons (js_ifF (jt_cmp op_inJ ref_in (je_op op_addJ ref_add (je_ixS (ix_J hr.units) ref_ix (je_var 4) (je_var 5) (fun _ _ => rfl)) (je_ixS (ix_J hr.units) ref_ix (je_var 4) (je_var 6) (fun _ _ => rfl))) (je_var 4) (by rfl)) (jss_one (js_parF 5 6 rfl sc__law_vocabulary.nd rfl rfl (by decide) rfl rfl (je_op op_sub ref_sub (je_callB call_lenJ ref_len (by rfl) C.n_len bt_len (ja_cons (je_var 4) (ja_nil))) (je_int)) (je_op op_sub ref_sub (je_callB call_lenJ ref_len (by rfl) C.n_len bt_len (ja_cons (je_var 4) (ja_nil))) (je_int)) (by rfl))) (jss_nil))
    (jss_cons (js_ifF (jt_cmp op_inJ ref_in (je_op op_addJ ref_add (je_ixS (ix_J hr.units) ref_ix (je_var 4) (je_var 5) (fun _ _ => rfl)) (je_ixS (ix_J hr.units) ref_ix (je_var 4) (je_var 6) (fun _ _ => rfl))) (je_var 4) (by rfl)) (jss_cons (js_setF 5 sc__law_vocabulary.nd rfl (by first | exact Or.inl rfl | exact Or.inr rfl) (je_ixS (ix_J hr.units) ref_ix (je_ixS (ix_J hr.units) ref_ix (je_callBS (call_sortedS rfl hr.units) ref_sortedS (by rfl) C.n_sorted bt_sorted (ja_cons (je_L (jf_lc (own := [(("_law_at" : PySem.Str), 7), (("_law_piece" : PySem.Str), 8)]) rfl sc__law_vocabulary.nd (blkOk_by (N := N__law_vocabulary) (sc := defScope Hd.s__law_vocabulary) (own := [(("_law_at" : PySem.Str), 7), (("_law_piece" : PySem.Str), 8)]) (by decide +kernel)) (ji_enum (by rfl) C.n_enumerate (je_var 4)) (fun _ _ _ _ _ => jg_tp rfl (jgs_cons (jg_nm 7 sc__law_vocabulary.nd rfl (by first | exact Or.inl rfl | exact Or.inr rfl)) (jgs_cons (jg_nm 8 sc__law_vocabulary.nd rfl (by first | exact Or.inl rfl | exact Or.inr rfl)) (jgs_nil)))) (fun _ _ _ _ _ => jts_nil) (fun _ _ _ _ _ => je_tup (ja_cons (je_callB call_lenJ ref_len (by rfl) C.n_len bt_len (ja_cons (je_var 8) (ja_nil))) (ja_cons (je_var 7) (ja_nil))) (len_cons (len_cons len_nil)) (by decide)) (by decide))) (ja_nil))) (je_un un_neg ref_neg (je_int)) (fun _ _ => rfl)) (je_int) (fun _ _ => rfl)))
    (jss_one (js_set 6 sc__law_vocabulary.nd rfl (by first | exact Or.inl rfl | exact Or.inr rfl) (je_var 5)))) (jss_nil))
    (jss_cons (js_app 3 rfl (by first | exact Or.inl rfl | exact Or.inr (Or.inl rfl) | exact Or.inr (Or.inr rfl)) (je_tup (ja_cons (je_var 5) (ja_cons (je_var 6) (ja_nil))) (len_cons (len_cons len_nil)) (by decide)))
    (jss_one (js_appF 4 rfl (by first | exact Or.inl rfl | exact Or.inr (Or.inl rfl) | exact Or.inr (Or.inr rfl)) (je_op op_addJ ref_add (je_ixS (ix_J hr.units) ref_ix (je_var 4) (je_var 5) (fun _ _ => rfl)) (je_ixS (ix_J hr.units) ref_ix (je_var 4) (je_var 6) (fun _ _ => rfl))))))))))
    (jss_one (js_ret (je_tup (ja_cons (je_str) (ja_cons (je_var 2) (ja_cons (je_callTy call_tuple_of ref_tuple (by rfl) C.n_tuple bt_tuple (ja_cons (je_var 3) (ja_nil))) (ja_nil)))) (len_cons (len_cons (len_cons len_nil))) (by decide))))))
theorem w__law_words (C : Cn K mg) {fd : FuncData} {dvs : List V} (F : FunD K "_law_words" "_law_words" (defArgs Hd.s__law_words) (defBody Hd.s__law_words) (defScope Hd.s__law_words) dvs [] (He.ga K "_law_words") fd) : FnOk P w K mg base CX0 1 (He.ga K "_law_words") fd [("_law_numbers" : PySem.Str)] (spF K m__law_words) :=
  ok_def F sc__law_words fun cdv A outer s H E hr => by
   exact jss_one (js_ret (je_join (je_str) (je_L (jf_lc (own := [(("_law_number" : PySem.Str), 1)]) rfl sc__law_words.nd (blkOk_by (N := N__law_words) (sc := defScope Hd.s__law_words) (own := [(("_law_number" : PySem.Str), 1)]) (by decide +kernel)) (ji_seq (je_var 0)) (fun _ _ _ _ _ => jg_nm 1 sc__law_words.nd rfl (by first | exact Or.inl rfl | exact Or.inr rfl)) (fun _ _ _ _ _ => jts_nil) (fun _ _ _ _ _ => je_op op_addJ ref_add (je_str) (je_callTy call_str_int ref_str (by rfl) C.n_str bt_str (ja_cons (je_var 1) (ja_nil)))) (by decide)))))
theorem w__law_model_text (C : Cn K mg) (O__law_words : OkF P w K mg base 1 "_law_words" [("_law_numbers" : PySem.Str)] m__law_words) {fd : FuncData} {dvs : List V} (F : FunD K "_law_model_text" "_law_model_text" (defArgs Hd.s__law_model_text) (defBody Hd.s__law_model_text) (defScope Hd.s__law_model_text) dvs [] (He.ga K "_law_model_text") fd) : FnOk P w K mg base CX0 2 (He.ga K "_law_model_text") fd [("_law_model" : PySem.Str)] (spF K m__law_model_text) :=
  ok_def F sc__law_model_text fun cdv A outer s H E hr => by
   exact jss_cons (js_own 1 sc__law_model_text.nd rfl (by first | exact Or.inl rfl | exact Or.inr rfl) (jf_lst (ja_cons (je_op op_addJ ref_add (je_ixS (ix_J hr.units) ref_ix (je_var 0) (je_int) (fun _ _ => rfl)) (je_callO O__law_words hr (by rfl) (ja_cons (je_slice sl_J ref_slice (je_var 0) (jo_some (je_int)) (jo_some (je_int))) (ja_nil)))) (ja_nil)) (len_cons len_nil) (by decide)))
    (jss_cons (js_if (jt_cmpS (op_eqJ hr.units) ref_eq (je_ixS (ix_J hr.units) ref_ix (je_var 0) (je_int) (fun _ _ => rfl)) (je_str) (by rfl)) (jss_cons (js_app 1 rfl (by first | exact Or.inl rfl | exact Or.inr (Or.inl rfl) | exact Or.inr (Or.inr rfl)) (je_op op_addJ ref_add (je_str) (je_callO O__law_words hr (by rfl) (ja_cons (je_ixS (ix_J hr.units) ref_ix (je_var 0) (je_int) (fun _ _ => rfl)) (ja_nil)))))
    (jss_cons (js_ext 1 rfl (by first | exact Or.inl rfl | exact Or.inr (Or.inl rfl) | exact Or.inr (Or.inr rfl)) (je_L (jf_lc (own := [(("_law_last" : PySem.Str), 2), (("_law_weights" : PySem.Str), 3)]) rfl sc__law_model_text.nd (blkOk_by (N := N__law_model_text) (sc := defScope Hd.s__law_model_text) (own := [(("_law_last" : PySem.Str), 2), (("_law_weights" : PySem.Str), 3)]) (by decide +kernel)) (ji_seq (je_ixS (ix_J hr.units) ref_ix (je_var 0) (je_int) (fun _ _ => rfl))) (fun _ _ _ _ _ => jg_tp rfl (jgs_cons (jg_nm 2 sc__law_model_text.nd rfl (by first | exact Or.inl rfl | exact Or.inr rfl)) (jgs_cons (jg_nm 3 sc__law_model_text.nd rfl (by first | exact Or.inl rfl | exact Or.inr rfl)) (jgs_nil)))) (fun _ _ _ _ _ => jts_nil) (fun _ _ _ _ _ => je_op op_addJ ref_add (je_op op_addJ ref_add (je_op op_addJ ref_add (je_str) (je_callO O__law_words hr (by rfl) (ja_cons (je_var 2) (ja_nil)))) (je_str)) (je_callO O__law_words hr (by rfl) (ja_cons (je_var 3) (ja_nil)))) (by decide))))
    (jss_one (js_ret (je_join (je_str) (je_var 1)))))) (jss_nil))
    (jss_cons (js_ext 1 rfl (by first | exact Or.inl rfl | exact Or.inr (Or.inl rfl) | exact Or.inr (Or.inr rfl)) (je_op op_addJ ref_add (je_L (jf_lc (own := [(("_law_it" : PySem.Str), 4)]) rfl sc__law_model_text.nd (blkOk_by (N := N__law_model_text) (sc := defScope Hd.s__law_model_text) (own := [(("_law_it" : PySem.Str), 4)]) (by decide +kernel)) (ji_seq (je_ixS (ix_J hr.units) ref_ix (je_var 0) (je_int) (fun _ _ => rfl))) (fun _ _ _ _ _ => jg_nm 4 sc__law_model_text.nd rfl (by first | exact Or.inl rfl | exact Or.inr rfl)) (fun _ _ _ _ _ => jts_nil) (fun _ _ _ _ _ => je_op op_addJ ref_add (je_str) (je_callO O__law_words hr (by rfl) (ja_cons (je_var 4) (ja_nil)))) (by decide))) (je_L (jf_lc (own := [(("_law_it" : PySem.Str), 4)]) rfl sc__law_model_text.nd (blkOk_by (N := N__law_model_text) (sc := defScope Hd.s__law_model_text) (own := [(("_law_it" : PySem.Str), 4)]) (by decide +kernel)) (ji_seq (je_ixS (ix_J hr.units) ref_ix (je_var 0) (je_int) (fun _ _ => rfl))) (fun _ _ _ _ _ => jg_nm 4 sc__law_model_text.nd rfl (by first | exact Or.inl rfl | exact Or.inr rfl)) (fun _ _ _ _ _ => jts_nil) (fun _ _ _ _ _ => je_op op_addJ ref_add (je_str) (je_callO O__law_words hr (by rfl) (ja_cons (je_var 4) (ja_nil)))) (by decide)))))
    (jss_cons (js_for PassesOwn.never rfl (ji_seq (je_ixS (ix_J hr.units) ref_ix (je_var 0) (je_int) (fun _ _ => rfl))) (jg_nm 5 sc__law_model_text.nd rfl (by first | exact Or.inl rfl | exact Or.inr rfl)) (jss_one (js_for PassesOwn.never rfl (ji_zip (by rfl) C.n_zip (je_tup (ja_cons (je_str) (ja_cons (je_str) (ja_cons (je_str) (ja_cons (je_str) (ja_nil))))) (len_cons (len_cons (len_cons (len_cons len_nil)))) (by decide)) (je_var 5)) (jg_tp rfl (jgs_cons (jg_nm 6 sc__law_model_text.nd rfl (by first | exact Or.inl rfl | exact Or.inr rfl)) (jgs_cons (jg_nm 7 sc__law_model_text.nd rfl (by first | exact Or.inl rfl | exact Or.inr rfl)) (jgs_nil)))) (jss_one (js_ext 1 rfl (by first | exact Or.inl rfl | exact Or.inr (Or.inl rfl) | exact Or.inr (Or.inr rfl)) (je_L (jf_lc (own := [(("_law_it" : PySem.Str), 4)]) rfl sc__law_model_text.nd (blkOk_by (N := N__law_model_text) (sc := defScope Hd.s__law_model_text) (own := [(("_law_it" : PySem.Str), 4)]) (by decide +kernel)) (ji_seq (je_var 7)) (fun _ _ _ _ _ => jg_nm 4 sc__law_model_text.nd rfl (by first | exact Or.inl rfl | exact Or.inr rfl)) (fun _ _ _ _ _ => jts_nil) (fun _ _ _ _ _ => je_op op_addJ ref_add (je_var 6) (je_callO O__law_words hr (by rfl) (ja_cons (je_var 4) (ja_nil)))) (by decide))))))))
    (jss_one (js_ret (je_join (je_str) (je_op op_addJ ref_add (je_var 1) (je_L (jf_lc (own := [(("_law_it" : PySem.Str), 4)]) rfl sc__law_model_text.nd (blkOk_by (N := N__law_model_text) (sc := defScope Hd.s__law_model_text) (own := [(("_law_it" : PySem.Str), 4)]) (by decide +kernel)) (ji_seq (je_ixS (ix_J hr.units) ref_ix (je_var 0) (je_int) (fun _ _ => rfl))) (fun _ _ _ _ _ => jg_nm 4 sc__law_model_text.nd rfl (by first | exact Or.inl rfl | exact Or.inr rfl)) (fun _ _ _ _ _ => jts_nil) (fun _ _ _ _ _ => je_op op_addJ ref_add (je_str) (je_callO O__law_words hr (by rfl) (ja_cons (je_var 4) (ja_nil)))) (by decide))))))))))
theorem w__law_vocabulary_text (C : Cn K mg) (O__law_words : OkF P w K mg base 1 "_law_words" [("_law_numbers" : PySem.Str)] m__law_words) {fd : FuncData} {dvs : List V} (F : FunD K "_law_vocabulary_text" "_law_vocabulary_text" (defArgs Hd.s__law_vocabulary_text) (defBody Hd.s__law_vocabulary_text) (defScope Hd.s__law_vocabulary_text) dvs [] (He.ga K "_law_vocabulary_text") fd) : FnOk P w K mg base CX0 2 (He.ga K "_law_vocabulary_text") fd [("_law_vocabulary_here" : PySem.Str)] (spF K m__law_vocabulary_text) :=
  ok_def F sc__law_vocabulary_text fun cdv A outer s H E hr => by
   exact jss_one (js_ret (je_join (je_str) (je_op op_addJ ref_add (je_L (jf_lst (ja_cons (je_op op_addJ ref_add (je_str) (je_ixS (ix_J hr.units) ref_ix (je_var 0) (je_int) (fun _ _ => rfl))) (ja_nil)) (len_cons len_nil) (by decide))) (je_L (jf_lc (own := [(("_law_it" : PySem.Str), 1)]) rfl sc__law_vocabulary_text.nd (blkOk_by (N := N__law_vocabulary_text) (sc := defScope Hd.s__law_vocabulary_text) (own := [(("_law_it" : PySem.Str), 1)]) (by decide +kernel)) (ji_seq (je_ixS (ix_J hr.units) ref_ix (je_var 0) (je_int) (fun _ _ => rfl))) (fun _ _ _ _ _ => jg_nm 1 sc__law_vocabulary_text.nd rfl (by first | exact Or.inl rfl | exact Or.inr rfl)) (fun _ _ _ _ _ => jts_nil) (fun _ _ _ _ _ => je_op op_addJ ref_add (je_str) (je_callO O__law_words hr (by rfl) (ja_cons (je_var 1) (ja_nil)))) (by decide))))))
theorem w_law (C : Cn K mg) (O__law_deck : OkF P w K mg base 1 "_law_deck" [("_law_script" : PySem.Str)] m__law_deck) (O__law_model_text : OkF P w K mg base 2 "_law_model_text" [("_law_model" : PySem.Str)] m__law_model_text) (O_read_model : OkF P w K mg base 9 "read_model" [("text" : PySem.Str)] m_read_model) (O__law_vocabulary : OkF P w K mg base 3 "_law_vocabulary" [("_law_deck_here" : PySem.Str), ("_law_many" : PySem.Str)] m__law_vocabulary) (O__law_vocabulary_text : OkF P w K mg base 2 "_law_vocabulary_text" [("_law_vocabulary_here" : PySem.Str)] m__law_vocabulary_text) (O_read_vocabulary : OkF P w K mg base 6 "read_vocabulary" [("text" : PySem.Str)] m_read_vocabulary) (O__law_draw : OkF P w K mg base 1 "_law_draw" [("_law_deck_here" : PySem.Str), ("_law_many" : PySem.Str)] m__law_draw) (O__law_net : OkF P w K mg base 3 "_law_net" [("_law_deck_here" : PySem.Str), ("_law_many" : PySem.Str), ("_law_most" : PySem.Str)] m__law_net) (O__law_window : OkF P w K mg base 4 "_law_window" [("_law_deck_here" : PySem.Str), ("_law_many" : PySem.Str)] m__law_window) (O_model_weights : OkF P w K mg base 9 "model_weights" [("model" : PySem.Str), ("tokens" : PySem.Str)] m_model_weights) (O_model_text : OkF P w K mg base 8 "model_text" [("model" : PySem.Str)] m_model_text) (O__law_seen : OkF P w K mg base 4 "_law_seen" [("_law_model" : PySem.Str), ("_law_tokens" : PySem.Str)] m__law_seen) (O_vocabulary_text : OkF P w K mg base 6 "vocabulary_text" [("vocabulary" : PySem.Str)] m_vocabulary_text) (O__law_net_d : OkD P w K mg base 3 "_law_net" [("_law_deck_here" : PySem.Str), ("_law_many" : PySem.Str), ("_law_most" : PySem.Str)] m__law_net [.int 1]) (O_model_text_k : OkK P w K mg base 8 "model_text" [("model" : PySem.Str)] m_model_text) (O_vocabulary_text_k : OkK P w K mg base 6 "vocabulary_text" [("vocabulary" : PySem.Str)] m_vocabulary_text) (O_read_model_k : OkK P w K mg base 9 "read_model" [("text" : PySem.Str)] m_read_model) (O_read_vocabulary_k : OkK P w K mg base 6 "read_vocabulary" [("text" : PySem.Str)] m_read_vocabulary) {fd : FuncData} {dvs : List V} (F : FunD K "law" "law" (defArgs Hd.s_law) (defBody Hd.s_law) (defScope Hd.s_law) dvs [] (He.ga K "law") fd) : FnOkG P w K mg base CX0 10 (He.ga K "law") fd [("_law_script" : PySem.Str)] (spF K m_law) :=
  ok_defG F sc_law fun cdv A outer s H E hg hr => by
   exact jss_cons (js_set 1 sc_law.nd rfl (by first | exact Or.inl rfl | exact Or.inr rfl) (je_callO O__law_deck (hr.mono (by decide)) (by rfl) (ja_cons (je_var 0) (ja_nil))))
    (jss_cons (js_for PassesOwn.never rfl (ji_range (by rfl) C.n_range (ja_cons (je_int) (ja_nil))) (jg_nm 2 sc_law.nd rfl (by first | exact Or.inl rfl | exact Or.inr rfl)) (jss_cons (js_set 3 sc_law.nd rfl (by first | exact Or.inl rfl | exact Or.inr rfl) (je_op op_addJ ref_add (je_int) (je_callO O__law_draw (hr.mono (by decide)) (by rfl) (ja_cons (je_var 1) (ja_cons (je_int) (ja_nil))))))
    (jss_cons (js_set 4 sc_law.nd rfl (by first | exact Or.inl rfl | exact Or.inr rfl) (je_if (jt_cmpS (op_eqJ hr.units) ref_eq (je_var 2) (je_int) (by rfl)) (je_callO O__law_net (hr.mono (by decide)) (by rfl) (ja_cons (je_var 1) (ja_cons (je_var 3) (ja_cons (je_int) (ja_nil))))) (je_callO O__law_window (hr.mono (by decide)) (by rfl) (ja_cons (je_var 1) (ja_cons (je_var 3) (ja_nil))))))
    (jss_cons (js_if (jt_w (jw_and (jt_cmpS (op_eqJ hr.units) ref_eq (je_var 2) (je_int) (by rfl)) (jw_and1 (jt_cmpS (op_eqJ hr.units) ref_eq (je_callO O__law_draw (hr.mono (by decide)) (by rfl) (ja_cons (je_var 1) (ja_cons (je_int) (ja_nil)))) (je_int) (by rfl))))) (jss_one (js_set 4 sc_law.nd rfl (by first | exact Or.inl rfl | exact Or.inr rfl) (je_op op_addJ ref_add (je_op op_addJ ref_add (je_slice sl_J ref_slice (je_var 4) (jo_none) (jo_some (je_int))) (je_tup (ja_cons (je_tup (ja_nil) len_nil (by decide)) (ja_nil)) (len_cons len_nil) (by decide))) (je_slice sl_J ref_slice (je_var 4) (jo_some (je_int)) (jo_none))))) (jss_nil))
    (jss_cons (js_set 5 sc_law.nd rfl (by first | exact Or.inl rfl | exact Or.inr rfl) (je_callO O__law_model_text (hr.mono (by decide)) (by rfl) (ja_cons (je_var 4) (ja_nil))))
    (jss_cons (js_if (jt_cmpS (op_neJ hr.units) ref_ne (je_callB (call_reprJ hg hr.units) ref_repr (by rfl) C.n_repr bt_repr (ja_cons (je_tup (ja_cons (je_callO O_model_text (hr.mono (by decide)) (by rfl) (ja_cons (je_var 4) (ja_nil))) (ja_cons (je_callOK O_model_text_k (hr.mono (by decide)) (by rfl) (jk_cons (je_var 4) (jk_nil))) (ja_nil))) (len_cons (len_cons len_nil)) (by decide)) (ja_nil))) (je_callB (call_reprJ hg hr.units) ref_repr (by rfl) C.n_repr bt_repr (ja_cons (je_tup (ja_cons (je_var 5) (ja_cons (je_var 5) (ja_nil))) (len_cons (len_cons len_nil)) (by decide)) (ja_nil))) (by rfl)) (jss_one (js_ret (je_bl))) (jss_nil))
    (jss_cons (js_set 6 sc_law.nd rfl (by first | exact Or.inl rfl | exact Or.inr rfl) (je_callO O_read_model hr (by rfl) (ja_cons (je_var 5) (ja_nil))))
    (jss_cons (js_if (jt_w (jw_or (jt_cmpS (op_neJ hr.units) ref_ne (je_callB (call_reprJ hg hr.units) ref_repr (by rfl) C.n_repr bt_repr (ja_cons (je_tup (ja_cons (je_var 6) (ja_cons (je_callOK O_read_model_k hr (by rfl) (jk_cons (je_var 5) (jk_nil))) (ja_nil))) (len_cons (len_cons len_nil)) (by decide)) (ja_nil))) (je_callB (call_reprJ hg hr.units) ref_repr (by rfl) C.n_repr bt_repr (ja_cons (je_tup (ja_cons (je_var 4) (ja_cons (je_var 4) (ja_nil))) (len_cons (len_cons len_nil)) (by decide)) (ja_nil))) (by rfl)) (jw_or1 (jt_cmpS (op_neJ hr.units) ref_ne (je_callB (call_reprJ hg hr.units) ref_repr (by rfl) C.n_repr bt_repr (ja_cons (je_callO O_model_text (hr.mono (by decide)) (by rfl) (ja_cons (je_var 6) (ja_nil))) (ja_nil))) (je_callB (call_reprJ hg hr.units) ref_repr (by rfl) C.n_repr bt_repr (ja_cons (je_var 5) (ja_nil))) (by rfl))))) (jss_one (js_ret (je_bl))) (jss_nil))
    (jss_cons (js_set 7 sc_law.nd rfl (by first | exact Or.inl rfl | exact Or.inr rfl) (je_callTy call_tuple_of ref_tuple (by rfl) C.n_tuple bt_tuple (ja_cons (je_L (jf_lc (own := [(("_law_at" : PySem.Str), 8)]) rfl sc_law.nd (blkOk_by (N := N_law) (sc := defScope Hd.s_law) (own := [(("_law_at" : PySem.Str), 8)]) (by decide +kernel)) (ji_range (by rfl) C.n_range (ja_cons (je_op op_addJ ref_add (je_int) (je_callO O__law_draw (hr.mono (by decide)) (by rfl) (ja_cons (je_var 1) (ja_cons (je_int) (ja_nil))))) (ja_nil))) (fun _ _ _ _ _ => jg_nm 8 sc_law.nd rfl (by first | exact Or.inl rfl | exact Or.inr rfl)) (fun _ _ _ _ _ => jts_nil) (fun _ _ _ _ _ => je_callO O__law_draw (hr.mono (by decide)) (by rfl) (ja_cons (je_var 1) (ja_cons (je_var 3) (ja_nil)))) (by decide))) (ja_nil))))
    (jss_cons (js_if (jt_cmpS (op_neJ hr.units) ref_ne (je_callB (call_reprJ hg hr.units) ref_repr (by rfl) C.n_repr bt_repr (ja_cons (je_callO O_model_weights hr (by rfl) (ja_cons (je_var 6) (ja_cons (je_var 7) (ja_nil)))) (ja_nil))) (je_callB (call_reprJ hg hr.units) ref_repr (by rfl) C.n_repr bt_repr (ja_cons (je_ixS (ix_J hr.units) ref_ix (je_callO O__law_seen (hr.mono (by decide)) (by rfl) (ja_cons (je_var 4) (ja_cons (je_var 7) (ja_nil)))) (je_int) (fun _ _ => rfl)) (ja_nil))) (by rfl)) (jss_one (js_ret (je_bl))) (jss_nil))
    (jss_cons (js_set 9 sc_law.nd rfl (by first | exact Or.inl rfl | exact Or.inr rfl) (je_callO O__law_vocabulary (hr.mono (by decide)) (by rfl) (ja_cons (je_var 1) (ja_cons (je_var 3) (ja_nil)))))
    (jss_cons (js_set 5 sc_law.nd rfl (by first | exact Or.inl rfl | exact Or.inr rfl) (je_callO O__law_vocabulary_text (hr.mono (by decide)) (by rfl) (ja_cons (je_var 9) (ja_nil))))
    (jss_cons (js_if (jt_cmpS (op_neJ hr.units) ref_ne (je_callB (call_reprJ hg hr.units) ref_repr (by rfl) C.n_repr bt_repr (ja_cons (je_tup (ja_cons (je_callO O_vocabulary_text (hr.mono (by decide)) (by rfl) (ja_cons (je_var 9) (ja_nil))) (ja_cons (je_callOK O_vocabulary_text_k (hr.mono (by decide)) (by rfl) (jk_cons (je_var 9) (jk_nil))) (ja_nil))) (len_cons (len_cons len_nil)) (by decide)) (ja_nil))) (je_callB (call_reprJ hg hr.units) ref_repr (by rfl) C.n_repr bt_repr (ja_cons (je_tup (ja_cons (je_var 5) (ja_cons (je_var 5) (ja_nil))) (len_cons (len_cons len_nil)) (by decide)) (ja_nil))) (by rfl)) (jss_one (js_ret (je_bl))) (jss_nil))
    (jss_cons (js_set 6 sc_law.nd rfl (by first | exact Or.inl rfl | exact Or.inr rfl) (je_callO O_read_vocabulary (hr.mono (by decide)) (by rfl) (ja_cons (je_var 5) (ja_nil))))
    (jss_one (js_if (jt_w (jw_or (jt_cmpS (op_neJ hr.units) ref_ne (je_callB (call_reprJ hg hr.units) ref_repr (by rfl) C.n_repr bt_repr (ja_cons (je_tup (ja_cons (je_var 6) (ja_cons (je_callOK O_read_vocabulary_k (hr.mono (by decide)) (by rfl) (jk_cons (je_var 5) (jk_nil))) (ja_nil))) (len_cons (len_cons len_nil)) (by decide)) (ja_nil))) (je_callB (call_reprJ hg hr.units) ref_repr (by rfl) C.n_repr bt_repr (ja_cons (je_tup (ja_cons (je_var 9) (ja_cons (je_var 9) (ja_nil))) (len_cons (len_cons len_nil)) (by decide)) (ja_nil))) (by rfl)) (jw_or1 (jt_cmpS (op_neJ hr.units) ref_ne (je_callB (call_reprJ hg hr.units) ref_repr (by rfl) C.n_repr bt_repr (ja_cons (je_callO O_vocabulary_text (hr.mono (by decide)) (by rfl) (ja_cons (je_var 6) (ja_nil))) (ja_nil))) (je_callB (call_reprJ hg hr.units) ref_repr (by rfl) C.n_repr bt_repr (ja_cons (je_var 5) (ja_nil))) (by rfl))))) (jss_one (js_ret (je_bl))) (jss_nil)))))))))))))))))
    (jss_one (js_ret (je_bl))))
end
end Wk
end
section
set_option Elab.async false
set_option linter.all false
set_option maxRecDepth 100000
set_option maxHeartbeats 0
namespace Wk
open PySem PySem.Spec PyProof.Rows L2 J

theorem facts {P : Program} {w : World} {K : PySem.W.Frag} {h : Heap} {mg : PySem.Str → Option Value} {f : Addr} (X : K.In h) (G : h.Ns mainGlobals mg) (hfa : mg "law" = some (.ref f)) (c : He.SaysX Hd.fa Hd.fn [] [] Hd.ex w h K) :
    ∃ fd : FuncData, (∀ (s : Shared) (v : Value), BindsTo s fd ⟨[v], []⟩ [("_law_script", v)]) ∧ ∀ base : Heap, K.In base → base.Ns mainGlobals mg → FnOkG P w K mg base CX0 10 f fd [("_law_script" : PySem.Str)] (spF K m_law) := by
  have cd : He.SaysD Hd.fa Hd.fn K := c.t.d
  have hex : Hd.ex K = true := c.more
  have C : Cn K mg := by
    refine ⟨?_, ?_, ?_, ?_, ?_, ?_, ?_, ?_, ?_, ?_, ?_, ?_, ?_, ?_, ?_, ?_, ?_, ?_, ?_, ?_, ?_, ?_, ?_, ?_, ?_, ?_, ?_, ?_, ?_⟩
    · exact He.str_ok X G (cd.fact 84 (f := .str "SMALL" "abcdefghijklmnopqrstuvwxyz") rfl)
    · exact He.str_ok X G (cd.fact 85 (f := .str "VOCABULARY" "vocabulary") rfl)
    · exact He.int_ok X G (cd.fact 86 (f := .int "MOST_LETTERS" 6) rfl)
    · exact He.int_ok X G (cd.fact 87 (f := .int "MOST_MERGES" 10) rfl)
    · exact He.str_ok X G (cd.fact 88 (f := .str "WINDOW" "window") rfl)
    · exact He.str_ok X G (cd.fact 89 (f := .str "NET" "net") rfl)
    · exact He.int_ok X G (cd.fact 90 (f := .int "CLIP" 20) rfl)
    · exact He.int_ok X G (cd.fact 91 (f := .int "STEEP" 6) rfl)
    · exact He.str_ok X G (cd.fact 92 (f := .str "DIGITS" "0123456789") rfl)
    · exact He.glo_ok X G (cd.fact 93 (f := .glo "KINDS") rfl)
    · exact fun H => He.tupB_ok hex H
    · exact He.free_ok X G (cd.fact 66 (f := .free "Exception") rfl)
    · exact He.free_ok X G (cd.fact 67 (f := .free "all") rfl)
    · exact He.free_ok X G (cd.fact 68 (f := .free "bool") rfl)
    · exact He.free_ok X G (cd.fact 69 (f := .free "enumerate") rfl)
    · exact He.free_ok X G (cd.fact 70 (f := .free "int") rfl)
    · exact He.free_ok X G (cd.fact 71 (f := .free "isinstance") rfl)
    · exact He.free_ok X G (cd.fact 72 (f := .free "len") rfl)
    · exact He.free_ok X G (cd.fact 73 (f := .free "list") rfl)
    · exact He.free_ok X G (cd.fact 74 (f := .free "max") rfl)
    · exact He.free_ok X G (cd.fact 75 (f := .free "min") rfl)
    · exact He.free_ok X G (cd.fact 76 (f := .free "range") rfl)
    · exact He.free_ok X G (cd.fact 77 (f := .free "repr") rfl)
    · exact He.free_ok X G (cd.fact 78 (f := .free "set") rfl)
    · exact He.free_ok X G (cd.fact 79 (f := .free "sorted") rfl)
    · exact He.free_ok X G (cd.fact 80 (f := .free "str") rfl)
    · exact He.free_ok X G (cd.fact 81 (f := .free "sum") rfl)
    · exact He.free_ok X G (cd.fact 82 (f := .free "tuple") rfl)
    · exact He.free_ok X G (cd.fact 83 (f := .free "zip") rfl)
  obtain ⟨fd_is_integer, F_is_integer⟩ := cd.def_ 0 (d := Hd.d_is_integer) rfl
  have W_is_integer : ∀ base : Heap, FnOk P w K mg base CX0 1 (He.ga K "is_integer") fd_is_integer [("thing" : PySem.Str)] (spF K m_is_integer) := fun base => w_is_integer C  F_is_integer
  have O_is_integer : ∀ base : Heap, OkF P w K mg base 1 "is_integer" [("thing" : PySem.Str)] m_is_integer := fun base => okF_of F_is_integer (W_is_integer base) (He.glo_ok X G (cd.fact 0 (f := .glo "is_integer") rfl)) fun _ _ _ _ _ _ us hl => match us, hl with | [_], _ => rfl
  obtain ⟨fd_is_from, F_is_from⟩ := cd.def_ 1 (d := Hd.d_is_from) rfl
  have W_is_from : ∀ base : Heap, FnOk P w K mg base CX0 2 (He.ga K "is_from") fd_is_from [("thing" : PySem.Str), ("least" : PySem.Str)] (spF K m_is_from) := fun base => w_is_from C (O_is_integer base) F_is_from
  have O_is_from : ∀ base : Heap, OkF P w K mg base 2 "is_from" [("thing" : PySem.Str), ("least" : PySem.Str)] m_is_from := fun base => okF_of F_is_from (W_is_from base) (He.glo_ok X G (cd.fact 1 (f := .glo "is_from") rfl)) fun _ _ _ _ _ _ us hl => match us, hl with | [_, _], _ => rfl
  obtain ⟨fd_are_letters, F_are_letters⟩ := cd.def_ 2 (d := Hd.d_are_letters) rfl
  have W_are_letters : ∀ base : Heap, FnOk P w K mg base CX0 1 (He.ga K "are_letters") fd_are_letters [("thing" : PySem.Str)] (spF K m_are_letters) := fun base => w_are_letters C  F_are_letters
  have O_are_letters : ∀ base : Heap, OkF P w K mg base 1 "are_letters" [("thing" : PySem.Str)] m_are_letters := fun base => okF_of F_are_letters (W_are_letters base) (He.glo_ok X G (cd.fact 2 (f := .glo "are_letters") rfl)) fun _ _ _ _ _ _ us hl => match us, hl with | [_], _ => rfl
  obtain ⟨fd_is_pair_below, F_is_pair_below⟩ := cd.def_ 3 (d := Hd.d_is_pair_below) rfl
  have W_is_pair_below : ∀ base : Heap, FnOk P w K mg base CX0 3 (He.ga K "is_pair_below") fd_is_pair_below [("thing" : PySem.Str), ("most" : PySem.Str)] (spF K m_is_pair_below) := fun base => w_is_pair_below C (O_is_from base) F_is_pair_below
  have O_is_pair_below : ∀ base : Heap, OkF P w K mg base 3 "is_pair_below" [("thing" : PySem.Str), ("most" : PySem.Str)] m_is_pair_below := fun base => okF_of F_is_pair_below (W_is_pair_below base) (He.glo_ok X G (cd.fact 3 (f := .glo "is_pair_below") rfl)) fun _ _ _ _ _ _ us hl => match us, hl with | [_, _], _ => rfl
  obtain ⟨fd_size_raw, F_size_raw⟩ := cd.def_ 7 (d := Hd.d_size_raw) rfl
  have W_size_raw : ∀ base : Heap, FnOk P w K mg base CX0 1 (He.ga K "size_raw") fd_size_raw [("vocabulary" : PySem.Str)] (spF K m_size_raw) := fun base => w_size_raw C  F_size_raw
  have O_size_raw : ∀ base : Heap, OkF P w K mg base 1 "size_raw" [("vocabulary" : PySem.Str)] m_size_raw := fun base => okF_of F_size_raw (W_size_raw base) (He.glo_ok X G (cd.fact 7 (f := .glo "size_raw") rfl)) fun _ _ _ _ _ _ us hl => match us, hl with | [_], _ => rfl
  obtain ⟨fd_pieces_of, F_pieces_of⟩ := cd.def_ 8 (d := Hd.d_pieces_of) rfl
  have W_pieces_of : ∀ base : Heap, FnOk P w K mg base CX0 1 (He.ga K "pieces_of") fd_pieces_of [("vocabulary" : PySem.Str)] (spF K m_pieces_of) := fun base => w_pieces_of C  F_pieces_of
  have O_pieces_of : ∀ base : Heap, OkF P w K mg base 1 "pieces_of" [("vocabulary" : PySem.Str)] m_pieces_of := fun base => okF_of F_pieces_of (W_pieces_of base) (He.glo_ok X G (cd.fact 8 (f := .glo "pieces_of") rfl)) fun _ _ _ _ _ _ us hl => match us, hl with | [_], _ => rfl
  obtain ⟨fd_is_vocabulary_value, F_is_vocabulary_value⟩ := cd.def_ 4 (d := Hd.d_is_vocabulary_value) rfl
  have W_is_vocabulary_value : ∀ base : Heap, FnOk P w K mg base CX0 4 (He.ga K "is_vocabulary_value") fd_is_vocabulary_value [("thing" : PySem.Str)] (spF K m_is_vocabulary_value) := fun base => w_is_vocabulary_value C (O_size_raw base) (O_are_letters base) (O_is_pair_below base) (O_pieces_of base) F_is_vocabulary_value
  have O_is_vocabulary_value : ∀ base : Heap, OkF P w K mg base 4 "is_vocabulary_value" [("thing" : PySem.Str)] m_is_vocabulary_value := fun base => okF_of F_is_vocabulary_value (W_is_vocabulary_value base) (He.glo_ok X G (cd.fact 4 (f := .glo "is_vocabulary_value") rfl)) fun _ _ _ _ _ _ us hl => match us, hl with | [_], _ => rfl
  obtain ⟨fd_need_vocabulary, F_need_vocabulary⟩ := cd.def_ 5 (d := Hd.d_need_vocabulary) rfl
  have W_need_vocabulary : ∀ base : Heap, FnOk P w K mg base CX0 5 (He.ga K "need_vocabulary") fd_need_vocabulary [("thing" : PySem.Str)] (spF K m_need_vocabulary) := fun base => w_need_vocabulary C (O_is_vocabulary_value base) F_need_vocabulary
  have O_need_vocabulary : ∀ base : Heap, OkF P w K mg base 5 "need_vocabulary" [("thing" : PySem.Str)] m_need_vocabulary := fun base => okF_of F_need_vocabulary (W_need_vocabulary base) (He.glo_ok X G (cd.fact 5 (f := .glo "need_vocabulary") rfl)) fun _ _ _ _ _ _ us hl => match us, hl with | [_], _ => rfl
  obtain ⟨fd_are_tokens_below, F_are_tokens_below⟩ := cd.def_ 6 (d := Hd.d_are_tokens_below) rfl
  have W_are_tokens_below : ∀ base : Heap, FnOk P w K mg base CX0 3 (He.ga K "are_tokens_below") fd_are_tokens_below [("thing" : PySem.Str), ("many" : PySem.Str)] (spF K m_are_tokens_below) := fun base => w_are_tokens_below C (O_is_from base) F_are_tokens_below
  have O_are_tokens_below : ∀ base : Heap, OkF P w K mg base 3 "are_tokens_below" [("thing" : PySem.Str), ("many" : PySem.Str)] m_are_tokens_below := fun base => okF_of F_are_tokens_below (W_are_tokens_below base) (He.glo_ok X G (cd.fact 6 (f := .glo "are_tokens_below") rfl)) fun _ _ _ _ _ _ us hl => match us, hl with | [_, _], _ => rfl
  obtain ⟨fd_are_weights, F_are_weights⟩ := cd.def_ 9 (d := Hd.d_are_weights) rfl
  have W_are_weights : ∀ base : Heap, FnOk P w K mg base CX0 3 (He.ga K "are_weights") fd_are_weights [("thing" : PySem.Str), ("many" : PySem.Str)] (spF K m_are_weights) := fun base => w_are_weights C (O_is_from base) F_are_weights
  have O_are_weights : ∀ base : Heap, OkF P w K mg base 3 "are_weights" [("thing" : PySem.Str), ("many" : PySem.Str)] m_are_weights := fun base => okF_of F_are_weights (W_are_weights base) (He.glo_ok X G (cd.fact 9 (f := .glo "are_weights") rfl)) fun _ _ _ _ _ _ us hl => match us, hl with | [_, _], _ => rfl
  obtain ⟨fd_is_entry, F_is_entry⟩ := cd.def_ 10 (d := Hd.d_is_entry) rfl
  have W_is_entry : ∀ base : Heap, FnOk P w K mg base CX0 4 (He.ga K "is_entry") fd_is_entry [("thing" : PySem.Str), ("many" : PySem.Str), ("k" : PySem.Str)] (spF K m_is_entry) := fun base => w_is_entry C (O_are_weights base) (O_are_tokens_below base) F_is_entry
  have O_is_entry : ∀ base : Heap, OkF P w K mg base 4 "is_entry" [("thing" : PySem.Str), ("many" : PySem.Str), ("k" : PySem.Str)] m_is_entry := fun base => okF_of F_is_entry (W_is_entry base) (He.glo_ok X G (cd.fact 10 (f := .glo "is_entry") rfl)) fun _ _ _ _ _ _ us hl => match us, hl with | [_, _, _], _ => rfl
  obtain ⟨fd_is_window, F_is_window⟩ := cd.def_ 11 (d := Hd.d_is_window) rfl
  have W_is_window : ∀ base : Heap, FnOk P w K mg base CX0 5 (He.ga K "is_window") fd_is_window [("thing" : PySem.Str)] (spF K m_is_window) := fun base => w_is_window C (O_is_from base) (O_are_weights base) (O_is_entry base) F_is_window
  have O_is_window : ∀ base : Heap, OkF P w K mg base 5 "is_window" [("thing" : PySem.Str)] m_is_window := fun base => okF_of F_is_window (W_is_window base) (He.glo_ok X G (cd.fact 11 (f := .glo "is_window") rfl)) fun _ _ _ _ _ _ us hl => match us, hl with | [_], _ => rfl
  obtain ⟨fd_is_vector, F_is_vector⟩ := cd.def_ 12 (d := Hd.d_is_vector) rfl
  have W_is_vector : ∀ base : Heap, FnOk P w K mg base CX0 2 (He.ga K "is_vector") fd_is_vector [("thing" : PySem.Str), ("d" : PySem.Str)] (spF K m_is_vector) := fun base => w_is_vector C (O_is_integer base) F_is_vector
  have O_is_vector : ∀ base : Heap, OkF P w K mg base 2 "is_vector" [("thing" : PySem.Str), ("d" : PySem.Str)] m_is_vector := fun base => okF_of F_is_vector (W_is_vector base) (He.glo_ok X G (cd.fact 12 (f := .glo "is_vector") rfl)) fun _ _ _ _ _ _ us hl => match us, hl with | [_, _], _ => rfl
  obtain ⟨fd_are_vectors, F_are_vectors⟩ := cd.def_ 13 (d := Hd.d_are_vectors) rfl
  have W_are_vectors : ∀ base : Heap, FnOk P w K mg base CX0 3 (He.ga K "are_vectors") fd_are_vectors [("thing" : PySem.Str), ("d" : PySem.Str)] (spF K m_are_vectors) := fun base => w_are_vectors C (O_is_vector base) F_are_vectors
  have O_are_vectors : ∀ base : Heap, OkF P w K mg base 3 "are_vectors" [("thing" : PySem.Str), ("d" : PySem.Str)] m_are_vectors := fun base => okF_of F_are_vectors (W_are_vectors base) (He.glo_ok X G (cd.fact 13 (f := .glo "are_vectors") rfl)) fun _ _ _ _ _ _ us hl => match us, hl with | [_, _], _ => rfl
  obtain ⟨fd_is_layer, F_is_layer⟩ := cd.def_ 14 (d := Hd.d_is_layer) rfl
  have W_is_layer : ∀ base : Heap, FnOk P w K mg base CX0 4 (He.ga K "is_layer") fd_is_layer [("thing" : PySem.Str), ("d" : PySem.Str)] (spF K m_is_layer) := fun base => w_is_layer C (O_are_vectors base) F_is_layer
  have O_is_layer : ∀ base : Heap, OkF P w K mg base 4 "is_layer" [("thing" : PySem.Str), ("d" : PySem.Str)] m_is_layer := fun base => okF_of F_is_layer (W_is_layer base) (He.glo_ok X G (cd.fact 14 (f := .glo "is_layer") rfl)) fun _ _ _ _ _ _ us hl => match us, hl with | [_, _], _ => rfl
  obtain ⟨fd_is_net, F_is_net⟩ := cd.def_ 15 (d := Hd.d_is_net) rfl
  have W_is_net : ∀ base : Heap, FnOk P w K mg base CX0 5 (He.ga K "is_net") fd_is_net [("thing" : PySem.Str)] (spF K m_is_net) := fun base => w_is_net C (O_is_from base) (O_is_layer base) (O_are_vectors base) F_is_net
  have O_is_net : ∀ base : Heap, OkF P w K mg base 5 "is_net" [("thing" : PySem.Str)] m_is_net := fun base => okF_of F_is_net (W_is_net base) (He.glo_ok X G (cd.fact 15 (f := .glo "is_net") rfl)) fun _ _ _ _ _ _ us hl => match us, hl with | [_], _ => rfl
  obtain ⟨fd_is_model_value, F_is_model_value⟩ := cd.def_ 16 (d := Hd.d_is_model_value) rfl
  have W_is_model_value : ∀ base : Heap, FnOk P w K mg base CX0 6 (He.ga K "is_model_value") fd_is_model_value [("thing" : PySem.Str)] (spF K m_is_model_value) := fun base => w_is_model_value C (O_is_window base) (O_is_net base) F_is_model_value
  have O_is_model_value : ∀ base : Heap, OkF P w K mg base 6 "is_model_value" [("thing" : PySem.Str)] m_is_model_value := fun base => okF_of F_is_model_value (W_is_model_value base) (He.glo_ok X G (cd.fact 16 (f := .glo "is_model_value") rfl)) fun _ _ _ _ _ _ us hl => match us, hl with | [_], _ => rfl
  obtain ⟨fd_need_model, F_need_model⟩ := cd.def_ 17 (d := Hd.d_need_model) rfl
  have W_need_model : ∀ base : Heap, FnOk P w K mg base CX0 7 (He.ga K "need_model") fd_need_model [("thing" : PySem.Str)] (spF K m_need_model) := fun base => w_need_model C (O_is_model_value base) F_need_model
  have O_need_model : ∀ base : Heap, OkF P w K mg base 7 "need_model" [("thing" : PySem.Str)] m_need_model := fun base => okF_of F_need_model (W_need_model base) (He.glo_ok X G (cd.fact 17 (f := .glo "need_model") rfl)) fun _ _ _ _ _ _ us hl => match us, hl with | [_], _ => rfl
  obtain ⟨fd_are_model_tokens, F_are_model_tokens⟩ := cd.def_ 18 (d := Hd.d_are_model_tokens) rfl
  have W_are_model_tokens : ∀ base : Heap, FnOk P w K mg base CX0 4 (He.ga K "are_model_tokens") fd_are_model_tokens [("model" : PySem.Str), ("thing" : PySem.Str)] (spF K m_are_model_tokens) := fun base => w_are_model_tokens C (O_are_tokens_below base) F_are_model_tokens
  have O_are_model_tokens : ∀ base : Heap, OkF P w K mg base 4 "are_model_tokens" [("model" : PySem.Str), ("thing" : PySem.Str)] m_are_model_tokens := fun base => okF_of F_are_model_tokens (W_are_model_tokens base) (He.glo_ok X G (cd.fact 18 (f := .glo "are_model_tokens") rfl)) fun _ _ _ _ _ _ us hl => match us, hl with | [_, _], _ => rfl
  obtain ⟨fd_clipped, F_clipped⟩ := cd.def_ 19 (d := Hd.d_clipped) rfl
  have W_clipped : ∀ base : Heap, FnOk P w K mg base CX0 1 (He.ga K "clipped") fd_clipped [("vector" : PySem.Str)] (spF K m_clipped) := fun base => w_clipped C  F_clipped
  have O_clipped : ∀ base : Heap, OkF P w K mg base 1 "clipped" [("vector" : PySem.Str)] m_clipped := fun base => okF_of F_clipped (W_clipped base) (He.glo_ok X G (cd.fact 19 (f := .glo "clipped") rfl)) fun _ _ _ _ _ _ us hl => match us, hl with | [_], _ => rfl
  obtain ⟨fd_scalar, F_scalar⟩ := cd.def_ 20 (d := Hd.d_scalar) rfl
  have W_scalar : ∀ base : Heap, FnOk P w K mg base CX0 1 (He.ga K "scalar") fd_scalar [("one" : PySem.Str), ("other" : PySem.Str)] (spF K m_scalar) := fun base => w_scalar C  F_scalar
  have O_scalar : ∀ base : Heap, OkF P w K mg base 1 "scalar" [("one" : PySem.Str), ("other" : PySem.Str)] m_scalar := fun base => okF_of F_scalar (W_scalar base) (He.glo_ok X G (cd.fact 20 (f := .glo "scalar") rfl)) fun _ _ _ _ _ _ us hl => match us, hl with | [_, _], _ => rfl
  obtain ⟨fd_times, F_times⟩ := cd.def_ 21 (d := Hd.d_times) rfl
  have W_times : ∀ base : Heap, FnOk P w K mg base CX0 2 (He.ga K "times") fd_times [("matrix" : PySem.Str), ("vector" : PySem.Str)] (spF K m_times) := fun base => w_times C (O_scalar base) F_times
  have O_times : ∀ base : Heap, OkF P w K mg base 2 "times" [("matrix" : PySem.Str), ("vector" : PySem.Str)] m_times := fun base => okF_of F_times (W_times base) (He.glo_ok X G (cd.fact 21 (f := .glo "times") rfl)) fun _ _ _ _ _ _ us hl => match us, hl with | [_, _], _ => rfl
  obtain ⟨fd_plus, F_plus⟩ := cd.def_ 22 (d := Hd.d_plus) rfl
  have W_plus : ∀ base : Heap, FnOk P w K mg base CX0 2 (He.ga K "plus") fd_plus [("one" : PySem.Str), ("other" : PySem.Str)] (spF K m_plus) := fun base => w_plus C (O_clipped base) F_plus
  have O_plus : ∀ base : Heap, OkF P w K mg base 2 "plus" [("one" : PySem.Str), ("other" : PySem.Str)] m_plus := fun base => okF_of F_plus (W_plus base) (He.glo_ok X G (cd.fact 22 (f := .glo "plus") rfl)) fun _ _ _ _ _ _ us hl => match us, hl with | [_, _], _ => rfl
  obtain ⟨fd_shares_of, F_shares_of⟩ := cd.def_ 23 (d := Hd.d_shares_of) rfl
  have W_shares_of : ∀ base : Heap, FnOk P w K mg base CX0 1 (He.ga K "shares_of") fd_shares_of [("scores" : PySem.Str)] (spF K m_shares_of) := fun base => w_shares_of C  F_shares_of
  have O_shares_of : ∀ base : Heap, OkF P w K mg base 1 "shares_of" [("scores" : PySem.Str)] m_shares_of := fun base => okF_of F_shares_of (W_shares_of base) (He.glo_ok X G (cd.fact 23 (f := .glo "shares_of") rfl)) fun _ _ _ _ _ _ us hl => match us, hl with | [_], _ => rfl
  obtain ⟨fd_layer_done, F_layer_done⟩ := cd.def_ 24 (d := Hd.d_layer_done) rfl
  have W_layer_done : ∀ base : Heap, FnOk P w K mg base CX0 3 (He.ga K "layer_done") fd_layer_done [("layer" : PySem.Str), ("state" : PySem.Str), ("kept" : PySem.Str)] (spF K m_layer_done) := fun base => w_layer_done C (O_times base) (O_shares_of base) (O_plus base) (O_scalar base) F_layer_done
  have O_layer_done : ∀ base : Heap, OkF P w K mg base 3 "layer_done" [("layer" : PySem.Str), ("state" : PySem.Str), ("kept" : PySem.Str)] m_layer_done := fun base => okF_of F_layer_done (W_layer_done base) (He.glo_ok X G (cd.fact 24 (f := .glo "layer_done") rfl)) fun _ _ _ _ _ _ us hl => match us, hl with | [_, _, _], _ => rfl
  obtain ⟨fd_net_step, F_net_step⟩ := cd.def_ 25 (d := Hd.d_net_step) rfl
  have W_net_step : ∀ base : Heap, FnOk P w K mg base CX0 4 (He.ga K "net_step") fd_net_step [("model" : PySem.Str), ("rows" : PySem.Str), ("token" : PySem.Str)] (spF K m_net_step) := fun base => w_net_step C (O_plus base) (O_layer_done base) (O_shares_of base) (O_scalar base) F_net_step
  have O_net_step : ∀ base : Heap, OkF P w K mg base 4 "net_step" [("model" : PySem.Str), ("rows" : PySem.Str), ("token" : PySem.Str)] m_net_step := fun base => okF_of F_net_step (W_net_step base) (He.glo_ok X G (cd.fact 25 (f := .glo "net_step") rfl)) fun _ _ _ _ _ _ us hl => match us, hl with | [_, _, _], _ => rfl
  obtain ⟨fd_window_weights, F_window_weights⟩ := cd.def_ 26 (d := Hd.d_window_weights) rfl
  have W_window_weights : ∀ base : Heap, FnOk P w K mg base CX0 1 (He.ga K "window_weights") fd_window_weights [("model" : PySem.Str), ("tokens" : PySem.Str)] (spF K m_window_weights) := fun base => w_window_weights C  F_window_weights
  have O_window_weights : ∀ base : Heap, OkF P w K mg base 1 "window_weights" [("model" : PySem.Str), ("tokens" : PySem.Str)] m_window_weights := fun base => okF_of F_window_weights (W_window_weights base) (He.glo_ok X G (cd.fact 26 (f := .glo "window_weights") rfl)) fun _ _ _ _ _ _ us hl => match us, hl with | [_, _], _ => rfl
  obtain ⟨fd_step_raw, F_step_raw⟩ := cd.def_ 27 (d := Hd.d_step_raw) rfl
  have W_step_raw : ∀ base : Heap, FnOk P w K mg base CX0 5 (He.ga K "step_raw") fd_step_raw [("model" : PySem.Str), ("rows" : PySem.Str), ("token" : PySem.Str)] (spF K m_step_raw) := fun base => w_step_raw C (O_net_step base) (O_window_weights base) F_step_raw
  have O_step_raw : ∀ base : Heap, OkF P w K mg base 5 "step_raw" [("model" : PySem.Str), ("rows" : PySem.Str), ("token" : PySem.Str)] m_step_raw := fun base => okF_of F_step_raw (W_step_raw base) (He.glo_ok X G (cd.fact 27 (f := .glo "step_raw") rfl)) fun _ _ _ _ _ _ us hl => match us, hl with | [_, _, _], _ => rfl
  obtain ⟨fd_all_rows, F_all_rows⟩ := cd.def_ 28 (d := Hd.d_all_rows) rfl
  have W_all_rows : ∀ base : Heap, FnOk P w K mg base CX0 6 (He.ga K "all_rows") fd_all_rows [("model" : PySem.Str), ("tokens" : PySem.Str)] (spF K m_all_rows) := fun base => w_all_rows C (O_step_raw base) F_all_rows
  have O_all_rows : ∀ base : Heap, OkF P w K mg base 6 "all_rows" [("model" : PySem.Str), ("tokens" : PySem.Str)] m_all_rows := fun base => okF_of F_all_rows (W_all_rows base) (He.glo_ok X G (cd.fact 28 (f := .glo "all_rows") rfl)) fun _ _ _ _ _ _ us hl => match us, hl with | [_, _], _ => rfl
  obtain ⟨fd_weights_raw, F_weights_raw⟩ := cd.def_ 29 (d := Hd.d_weights_raw) rfl
  have W_weights_raw : ∀ base : Heap, FnOk P w K mg base CX0 7 (He.ga K "weights_raw") fd_weights_raw [("model" : PySem.Str), ("tokens" : PySem.Str)] (spF K m_weights_raw) := fun base => w_weights_raw C (O_window_weights base) (O_step_raw base) (O_all_rows base) F_weights_raw
  have O_weights_raw : ∀ base : Heap, OkF P w K mg base 7 "weights_raw" [("model" : PySem.Str), ("tokens" : PySem.Str)] m_weights_raw := fun base => okF_of F_weights_raw (W_weights_raw base) (He.glo_ok X G (cd.fact 29 (f := .glo "weights_raw") rfl)) fun _ _ _ _ _ _ us hl => match us, hl with | [_, _], _ => rfl
  obtain ⟨fd_words_of, F_words_of⟩ := cd.def_ 30 (d := Hd.d_words_of) rfl
  have W_words_of : ∀ base : Heap, FnOk P w K mg base CX0 1 (He.ga K "words_of") fd_words_of [("word" : PySem.Str), ("numbers" : PySem.Str)] (spF K m_words_of) := fun base => w_words_of C  F_words_of
  have O_words_of : ∀ base : Heap, OkF P w K mg base 1 "words_of" [("word" : PySem.Str), ("numbers" : PySem.Str)] m_words_of := fun base => okF_of F_words_of (W_words_of base) (He.glo_ok X G (cd.fact 30 (f := .glo "words_of") rfl)) fun _ _ _ _ _ _ us hl => match us, hl with | [_, _], _ => rfl
  obtain ⟨fd_vocabulary_lines, F_vocabulary_lines⟩ := cd.def_ 31 (d := Hd.d_vocabulary_lines) rfl
  have W_vocabulary_lines : ∀ base : Heap, FnOk P w K mg base CX0 2 (He.ga K "vocabulary_lines") fd_vocabulary_lines [("vocabulary" : PySem.Str)] (spF K m_vocabulary_lines) := fun base => w_vocabulary_lines C (O_words_of base) F_vocabulary_lines
  have O_vocabulary_lines : ∀ base : Heap, OkF P w K mg base 2 "vocabulary_lines" [("vocabulary" : PySem.Str)] m_vocabulary_lines := fun base => okF_of F_vocabulary_lines (W_vocabulary_lines base) (He.glo_ok X G (cd.fact 31 (f := .glo "vocabulary_lines") rfl)) fun _ _ _ _ _ _ us hl => match us, hl with | [_], _ => rfl
  obtain ⟨fd_model_lines, F_model_lines⟩ := cd.def_ 32 (d := Hd.d_model_lines) rfl
  have W_model_lines : ∀ base : Heap, FnOk P w K mg base CX0 2 (He.ga K "model_lines") fd_model_lines [("model" : PySem.Str)] (spF K m_model_lines) := fun base => w_model_lines C (O_words_of base) F_model_lines
  have O_model_lines : ∀ base : Heap, OkF P w K mg base 2 "model_lines" [("model" : PySem.Str)] m_model_lines := fun base => okF_of F_model_lines (W_model_lines base) (He.glo_ok X G (cd.fact 32 (f := .glo "model_lines") rfl)) fun _ _ _ _ _ _ us hl => match us, hl with | [_], _ => rfl
  obtain ⟨fd_integer_of, F_integer_of⟩ := cd.def_ 33 (d := Hd.d_integer_of) rfl
  have W_integer_of : ∀ base : Heap, FnOk P w K mg base CX0 1 (He.ga K "integer_of") fd_integer_of [("word" : PySem.Str)] (spF K m_integer_of) := fun base => w_integer_of C  F_integer_of
  have O_integer_of : ∀ base : Heap, OkF P w K mg base 1 "integer_of" [("word" : PySem.Str)] m_integer_of := fun base => okF_of F_integer_of (W_integer_of base) (He.glo_ok X G (cd.fact 33 (f := .glo "integer_of") rfl)) fun _ _ _ _ _ _ us hl => match us, hl with | [_], _ => rfl
  obtain ⟨fd_integers_of, F_integers_of⟩ := cd.def_ 34 (d := Hd.d_integers_of) rfl
  have W_integers_of : ∀ base : Heap, FnOk P w K mg base CX0 2 (He.ga K "integers_of") fd_integers_of [("words" : PySem.Str)] (spF K m_integers_of) := fun base => w_integers_of C (O_integer_of base) F_integers_of
  have O_integers_of : ∀ base : Heap, OkF P w K mg base 2 "integers_of" [("words" : PySem.Str)] m_integers_of := fun base => okF_of F_integers_of (W_integers_of base) (He.glo_ok X G (cd.fact 34 (f := .glo "integers_of") rfl)) fun _ _ _ _ _ _ us hl => match us, hl with | [_], _ => rfl
  obtain ⟨fd_numbers_behind, F_numbers_behind⟩ := cd.def_ 35 (d := Hd.d_numbers_behind) rfl
  have W_numbers_behind : ∀ base : Heap, FnOk P w K mg base CX0 3 (He.ga K "numbers_behind") fd_numbers_behind [("row" : PySem.Str), ("word" : PySem.Str)] (spF K m_numbers_behind) := fun base => w_numbers_behind C (O_integers_of base) F_numbers_behind
  have O_numbers_behind : ∀ base : Heap, OkF P w K mg base 3 "numbers_behind" [("row" : PySem.Str), ("word" : PySem.Str)] m_numbers_behind := fun base => okF_of F_numbers_behind (W_numbers_behind base) (He.glo_ok X G (cd.fact 35 (f := .glo "numbers_behind") rfl)) fun _ _ _ _ _ _ us hl => match us, hl with | [_, _], _ => rfl
  obtain ⟨fd_read_vocabulary_lines, F_read_vocabulary_lines⟩ := cd.def_ 36 (d := Hd.d_read_vocabulary_lines) rfl
  have W_read_vocabulary_lines : ∀ base : Heap, FnOk P w K mg base CX0 5 (He.ga K "read_vocabulary_lines") fd_read_vocabulary_lines [("rows" : PySem.Str)] (spF K m_read_vocabulary_lines) := fun base => w_read_vocabulary_lines C (O_numbers_behind base) (O_are_letters base) (O_is_vocabulary_value base) F_read_vocabulary_lines
  have O_read_vocabulary_lines : ∀ base : Heap, OkF P w K mg base 5 "read_vocabulary_lines" [("rows" : PySem.Str)] m_read_vocabulary_lines := fun base => okF_of F_read_vocabulary_lines (W_read_vocabulary_lines base) (He.glo_ok X G (cd.fact 36 (f := .glo "read_vocabulary_lines") rfl)) fun _ _ _ _ _ _ us hl => match us, hl with | [_], _ => rfl
  obtain ⟨fd_entry_of, F_entry_of⟩ := cd.def_ 37 (d := Hd.d_entry_of) rfl
  have W_entry_of : ∀ base : Heap, FnOk P w K mg base CX0 4 (He.ga K "entry_of") fd_entry_of [("row" : PySem.Str)] (spF K m_entry_of) := fun base => w_entry_of C (O_numbers_behind base) (O_integers_of base) F_entry_of
  have O_entry_of : ∀ base : Heap, OkF P w K mg base 4 "entry_of" [("row" : PySem.Str)] m_entry_of := fun base => okF_of F_entry_of (W_entry_of base) (He.glo_ok X G (cd.fact 37 (f := .glo "entry_of") rfl)) fun _ _ _ _ _ _ us hl => match us, hl with | [_], _ => rfl
  obtain ⟨fd_read_window_lines, F_read_window_lines⟩ := cd.def_ 38 (d := Hd.d_read_window_lines) rfl
  have W_read_window_lines : ∀ base : Heap, FnOk P w K mg base CX0 7 (He.ga K "read_window_lines") fd_read_window_lines [("rows" : PySem.Str)] (spF K m_read_window_lines) := fun base => w_read_window_lines C (O_numbers_behind base) (O_entry_of base) (O_is_model_value base) F_read_window_lines
  have O_read_window_lines : ∀ base : Heap, OkF P w K mg base 7 "read_window_lines" [("rows" : PySem.Str)] m_read_window_lines := fun base => okF_of F_read_window_lines (W_read_window_lines base) (He.glo_ok X G (cd.fact 38 (f := .glo "read_window_lines") rfl)) fun _ _ _ _ _ _ us hl => match us, hl with | [_], _ => rfl
  obtain ⟨fd_taken_from, F_taken_from⟩ := cd.def_ 39 (d := Hd.d_taken_from) rfl
  have W_taken_from : ∀ base : Heap, FnOk P w K mg base CX0 4 (He.ga K "taken_from") fd_taken_from [("rows" : PySem.Str), ("at" : PySem.Str), ("word" : PySem.Str), ("most" : PySem.Str), ("d" : PySem.Str)] (spF K m_taken_from) := fun base => w_taken_from C (O_numbers_behind base) F_taken_from
  have O_taken_from : ∀ base : Heap, OkF P w K mg base 4 "taken_from" [("rows" : PySem.Str), ("at" : PySem.Str), ("word" : PySem.Str), ("most" : PySem.Str), ("d" : PySem.Str)] m_taken_from := fun base => okF_of F_taken_from (W_taken_from base) (He.glo_ok X G (cd.fact 39 (f := .glo "taken_from") rfl)) fun _ _ _ _ _ _ us hl => match us, hl with | [_, _, _, _, _], _ => rfl
  obtain ⟨fd_read_net_lines, F_read_net_lines⟩ := cd.def_ 40 (d := Hd.d_read_net_lines) rfl
  have W_read_net_lines : ∀ base : Heap, FnOk P w K mg base CX0 5 (He.ga K "read_net_lines") fd_read_net_lines [("rows" : PySem.Str)] (spF K m_read_net_lines) := fun base => w_read_net_lines C (O_numbers_behind base) (O_taken_from base) F_read_net_lines
  have O_read_net_lines : ∀ base : Heap, OkF P w K mg base 5 "read_net_lines" [("rows" : PySem.Str)] m_read_net_lines := fun base => okF_of F_read_net_lines (W_read_net_lines base) (He.glo_ok X G (cd.fact 40 (f := .glo "read_net_lines") rfl)) fun _ _ _ _ _ _ us hl => match us, hl with | [_], _ => rfl
  obtain ⟨fd_read_model_lines, F_read_model_lines⟩ := cd.def_ 41 (d := Hd.d_read_model_lines) rfl
  have W_read_model_lines : ∀ base : Heap, FnOk P w K mg base CX0 8 (He.ga K "read_model_lines") fd_read_model_lines [("rows" : PySem.Str)] (spF K m_read_model_lines) := fun base => w_read_model_lines C (O_numbers_behind base) (O_read_window_lines base) (O_read_net_lines base) F_read_model_lines
  have O_read_model_lines : ∀ base : Heap, OkF P w K mg base 8 "read_model_lines" [("rows" : PySem.Str)] m_read_model_lines := fun base => okF_of F_read_model_lines (W_read_model_lines base) (He.glo_ok X G (cd.fact 41 (f := .glo "read_model_lines") rfl)) fun _ _ _ _ _ _ us hl => match us, hl with | [_], _ => rfl
  obtain ⟨fd_model_text, F_model_text⟩ := cd.def_ 42 (d := Hd.d_model_text) rfl
  have W_model_text : ∀ base : Heap, FnOk P w K mg base CX0 8 (He.ga K "model_text") fd_model_text [("model" : PySem.Str)] (spF K m_model_text) := fun base => w_model_text C (O_need_model base) (O_model_lines base) F_model_text
  have O_model_text : ∀ base : Heap, OkF P w K mg base 8 "model_text" [("model" : PySem.Str)] m_model_text := fun base => okF_of F_model_text (W_model_text base) (He.glo_ok X G (cd.fact 42 (f := .glo "model_text") rfl)) fun _ _ _ _ _ _ us hl => match us, hl with | [_], _ => rfl
  have O_model_text_k : ∀ base : Heap, OkK P w K mg base 8 "model_text" [("model" : PySem.Str)] m_model_text := fun base => okK_of F_model_text (W_model_text base) (He.glo_ok X G (cd.fact 42 (f := .glo "model_text") rfl)) fun _ _ _ _ _ _ us hl => match us, hl with | [_], _ => rfl
  obtain ⟨fd_vocabulary_text, F_vocabulary_text⟩ := cd.def_ 43 (d := Hd.d_vocabulary_text) rfl
  have W_vocabulary_text : ∀ base : Heap, FnOk P w K mg base CX0 6 (He.ga K "vocabulary_text") fd_vocabulary_text [("vocabulary" : PySem.Str)] (spF K m_vocabulary_text) := fun base => w_vocabulary_text C (O_need_vocabulary base) (O_vocabulary_lines base) F_vocabulary_text
  have O_vocabulary_text : ∀ base : Heap, OkF P w K mg base 6 "vocabulary_text" [("vocabulary" : PySem.Str)] m_vocabulary_text := fun base => okF_of F_vocabulary_text (W_vocabulary_text base) (He.glo_ok X G (cd.fact 43 (f := .glo "vocabulary_text") rfl)) fun _ _ _ _ _ _ us hl => match us, hl with | [_], _ => rfl
  have O_vocabulary_text_k : ∀ base : Heap, OkK P w K mg base 6 "vocabulary_text" [("vocabulary" : PySem.Str)] m_vocabulary_text := fun base => okK_of F_vocabulary_text (W_vocabulary_text base) (He.glo_ok X G (cd.fact 43 (f := .glo "vocabulary_text") rfl)) fun _ _ _ _ _ _ us hl => match us, hl with | [_], _ => rfl
  obtain ⟨fd_rows_of_text, F_rows_of_text⟩ := cd.def_ 44 (d := Hd.d_rows_of_text) rfl
  have W_rows_of_text : ∀ base : Heap, FnOk P w K mg base CX0 1 (He.ga K "rows_of_text") fd_rows_of_text [("text" : PySem.Str)] (spF K m_rows_of_text) := fun base => w_rows_of_text C  F_rows_of_text
  have O_rows_of_text : ∀ base : Heap, OkF P w K mg base 1 "rows_of_text" [("text" : PySem.Str)] m_rows_of_text := fun base => okF_of F_rows_of_text (W_rows_of_text base) (He.glo_ok X G (cd.fact 44 (f := .glo "rows_of_text") rfl)) fun _ _ _ _ _ _ us hl => match us, hl with | [_], _ => rfl
  obtain ⟨fd_read_model, F_read_model⟩ := cd.def_ 45 (d := Hd.d_read_model) rfl
  have W_read_model : ∀ base : Heap, FnOk P w K mg base CX0 9 (He.ga K "read_model") fd_read_model [("text" : PySem.Str)] (spF K m_read_model) := fun base => w_read_model C (O_read_model_lines base) (O_rows_of_text base) F_read_model
  have O_read_model : ∀ base : Heap, OkF P w K mg base 9 "read_model" [("text" : PySem.Str)] m_read_model := fun base => okF_of F_read_model (W_read_model base) (He.glo_ok X G (cd.fact 45 (f := .glo "read_model") rfl)) fun _ _ _ _ _ _ us hl => match us, hl with | [_], _ => rfl
  have O_read_model_k : ∀ base : Heap, OkK P w K mg base 9 "read_model" [("text" : PySem.Str)] m_read_model := fun base => okK_of F_read_model (W_read_model base) (He.glo_ok X G (cd.fact 45 (f := .glo "read_model") rfl)) fun _ _ _ _ _ _ us hl => match us, hl with | [_], _ => rfl
  obtain ⟨fd_read_vocabulary, F_read_vocabulary⟩ := cd.def_ 46 (d := Hd.d_read_vocabulary) rfl
  have W_read_vocabulary : ∀ base : Heap, FnOk P w K mg base CX0 6 (He.ga K "read_vocabulary") fd_read_vocabulary [("text" : PySem.Str)] (spF K m_read_vocabulary) := fun base => w_read_vocabulary C (O_read_vocabulary_lines base) (O_rows_of_text base) F_read_vocabulary
  have O_read_vocabulary : ∀ base : Heap, OkF P w K mg base 6 "read_vocabulary" [("text" : PySem.Str)] m_read_vocabulary := fun base => okF_of F_read_vocabulary (W_read_vocabulary base) (He.glo_ok X G (cd.fact 46 (f := .glo "read_vocabulary") rfl)) fun _ _ _ _ _ _ us hl => match us, hl with | [_], _ => rfl
  have O_read_vocabulary_k : ∀ base : Heap, OkK P w K mg base 6 "read_vocabulary" [("text" : PySem.Str)] m_read_vocabulary := fun base => okK_of F_read_vocabulary (W_read_vocabulary base) (He.glo_ok X G (cd.fact 46 (f := .glo "read_vocabulary") rfl)) fun _ _ _ _ _ _ us hl => match us, hl with | [_], _ => rfl
  obtain ⟨fd_need_tokens, F_need_tokens⟩ := cd.def_ 47 (d := Hd.d_need_tokens) rfl
  have W_need_tokens : ∀ base : Heap, FnOk P w K mg base CX0 8 (He.ga K "need_tokens") fd_need_tokens [("model" : PySem.Str), ("tokens" : PySem.Str)] (spF K m_need_tokens) := fun base => w_need_tokens C (O_need_model base) (O_are_model_tokens base) F_need_tokens
  have O_need_tokens : ∀ base : Heap, OkF P w K mg base 8 "need_tokens" [("model" : PySem.Str), ("tokens" : PySem.Str)] m_need_tokens := fun base => okF_of F_need_tokens (W_need_tokens base) (He.glo_ok X G (cd.fact 47 (f := .glo "need_tokens") rfl)) fun _ _ _ _ _ _ us hl => match us, hl with | [_, _], _ => rfl
  obtain ⟨fd_model_weights, F_model_weights⟩ := cd.def_ 48 (d := Hd.d_model_weights) rfl
  have W_model_weights : ∀ base : Heap, FnOk P w K mg base CX0 9 (He.ga K "model_weights") fd_model_weights [("model" : PySem.Str), ("tokens" : PySem.Str)] (spF K m_model_weights) := fun base => w_model_weights C (O_need_tokens base) (O_weights_raw base) F_model_weights
  have O_model_weights : ∀ base : Heap, OkF P w K mg base 9 "model_weights" [("model" : PySem.Str), ("tokens" : PySem.Str)] m_model_weights := fun base => okF_of F_model_weights (W_model_weights base) (He.glo_ok X G (cd.fact 48 (f := .glo "model_weights") rfl)) fun _ _ _ _ _ _ us hl => match us, hl with | [_, _], _ => rfl
  obtain ⟨fd__law_deck, F__law_deck⟩ := cd.def_ 49 (d := Hd.d__law_deck) rfl
  have W__law_deck : ∀ base : Heap, FnOk P w K mg base CX0 1 (He.ga K "_law_deck") fd__law_deck [("_law_script" : PySem.Str)] (spF K m__law_deck) := fun base => w__law_deck C  F__law_deck
  have O__law_deck : ∀ base : Heap, OkF P w K mg base 1 "_law_deck" [("_law_script" : PySem.Str)] m__law_deck := fun base => okF_of F__law_deck (W__law_deck base) (He.glo_ok X G (cd.fact 49 (f := .glo "_law_deck") rfl)) fun _ _ _ _ _ _ us hl => match us, hl with | [_], _ => rfl
  obtain ⟨fd__law_draw, F__law_draw⟩ := cd.def_ 50 (d := Hd.d__law_draw) rfl
  have W__law_draw : ∀ base : Heap, FnOk P w K mg base CX0 1 (He.ga K "_law_draw") fd__law_draw [("_law_deck_here" : PySem.Str), ("_law_many" : PySem.Str)] (spF K m__law_draw) := fun base => w__law_draw C  F__law_draw
  have O__law_draw : ∀ base : Heap, OkF P w K mg base 1 "_law_draw" [("_law_deck_here" : PySem.Str), ("_law_many" : PySem.Str)] m__law_draw := fun base => okF_of F__law_draw (W__law_draw base) (He.glo_ok X G (cd.fact 50 (f := .glo "_law_draw") rfl)) fun _ _ _ _ _ _ us hl => match us, hl with | [_, _], _ => rfl
  obtain ⟨fd__law_pick, F__law_pick⟩ := cd.def_ 51 (d := Hd.d__law_pick) rfl
  have W__law_pick : ∀ base : Heap, FnOk P w K mg base CX0 2 (He.ga K "_law_pick") fd__law_pick [("_law_deck_here" : PySem.Str), ("_law_some" : PySem.Str)] (spF K m__law_pick) := fun base => w__law_pick C (O__law_draw base) F__law_pick
  have O__law_pick : ∀ base : Heap, OkF P w K mg base 2 "_law_pick" [("_law_deck_here" : PySem.Str), ("_law_some" : PySem.Str)] m__law_pick := fun base => okF_of F__law_pick (W__law_pick base) (He.glo_ok X G (cd.fact 51 (f := .glo "_law_pick") rfl)) fun _ _ _ _ _ _ us hl => match us, hl with | [_, _], _ => rfl
  obtain ⟨fd__law_dot, F__law_dot⟩ := cd.def_ 52 (d := Hd.d__law_dot) rfl
  have W__law_dot : ∀ base : Heap, FnOk P w K mg base CX0 1 (He.ga K "_law_dot") fd__law_dot [("_law_one" : PySem.Str), ("_law_other" : PySem.Str)] (spF K m__law_dot) := fun base => w__law_dot C  F__law_dot
  have O__law_dot : ∀ base : Heap, OkF P w K mg base 1 "_law_dot" [("_law_one" : PySem.Str), ("_law_other" : PySem.Str)] m__law_dot := fun base => okF_of F__law_dot (W__law_dot base) (He.glo_ok X G (cd.fact 52 (f := .glo "_law_dot") rfl)) fun _ _ _ _ _ _ us hl => match us, hl with | [_, _], _ => rfl
  obtain ⟨fd__law_times, F__law_times⟩ := cd.def_ 53 (d := Hd.d__law_times) rfl
  have W__law_times : ∀ base : Heap, FnOk P w K mg base CX0 2 (He.ga K "_law_times") fd__law_times [("_law_matrix" : PySem.Str), ("_law_vector" : PySem.Str)] (spF K m__law_times) := fun base => w__law_times C (O__law_dot base) F__law_times
  have O__law_times : ∀ base : Heap, OkF P w K mg base 2 "_law_times" [("_law_matrix" : PySem.Str), ("_law_vector" : PySem.Str)] m__law_times := fun base => okF_of F__law_times (W__law_times base) (He.glo_ok X G (cd.fact 53 (f := .glo "_law_times") rfl)) fun _ _ _ _ _ _ us hl => match us, hl with | [_, _], _ => rfl
  obtain ⟨fd__law_clipped, F__law_clipped⟩ := cd.def_ 54 (d := Hd.d__law_clipped) rfl
  have W__law_clipped : ∀ base : Heap, FnOk P w K mg base CX0 1 (He.ga K "_law_clipped") fd__law_clipped [("_law_one" : PySem.Str), ("_law_other" : PySem.Str)] (spF K m__law_clipped) := fun base => w__law_clipped C  F__law_clipped
  have O__law_clipped : ∀ base : Heap, OkF P w K mg base 1 "_law_clipped" [("_law_one" : PySem.Str), ("_law_other" : PySem.Str)] m__law_clipped := fun base => okF_of F__law_clipped (W__law_clipped base) (He.glo_ok X G (cd.fact 54 (f := .glo "_law_clipped") rfl)) fun _ _ _ _ _ _ us hl => match us, hl with | [_, _], _ => rfl
  obtain ⟨fd__law_looked, F__law_looked⟩ := cd.def_ 55 (d := Hd.d__law_looked) rfl
  have W__law_looked : ∀ base : Heap, FnOk P w K mg base CX0 3 (He.ga K "_law_looked") fd__law_looked [("_law_states" : PySem.Str), ("_law_layer" : PySem.Str)] (spF K m__law_looked) := fun base => w__law_looked C (O__law_times base) (O__law_dot base) (O__law_clipped base) F__law_looked
  have O__law_looked : ∀ base : Heap, OkF P w K mg base 3 "_law_looked" [("_law_states" : PySem.Str), ("_law_layer" : PySem.Str)] m__law_looked := fun base => okF_of F__law_looked (W__law_looked base) (He.glo_ok X G (cd.fact 55 (f := .glo "_law_looked") rfl)) fun _ _ _ _ _ _ us hl => match us, hl with | [_, _], _ => rfl
  obtain ⟨fd__law_seen, F__law_seen⟩ := cd.def_ 56 (d := Hd.d__law_seen) rfl
  have W__law_seen : ∀ base : Heap, FnOk P w K mg base CX0 4 (He.ga K "_law_seen") fd__law_seen [("_law_model" : PySem.Str), ("_law_tokens" : PySem.Str)] (spF K m__law_seen) := fun base => w__law_seen C (O__law_clipped base) (O__law_looked base) (O__law_dot base) F__law_seen
  have O__law_seen : ∀ base : Heap, OkF P w K mg base 4 "_law_seen" [("_law_model" : PySem.Str), ("_law_tokens" : PySem.Str)] m__law_seen := fun base => okF_of F__law_seen (W__law_seen base) (He.glo_ok X G (cd.fact 56 (f := .glo "_law_seen") rfl)) fun _ _ _ _ _ _ us hl => match us, hl with | [_, _], _ => rfl
  obtain ⟨fd__law_some_weights, F__law_some_weights⟩ := cd.def_ 57 (d := Hd.d__law_some_weights) rfl
  have W__law_some_weights : ∀ base : Heap, FnOk P w K mg base CX0 3 (He.ga K "_law_some_weights") fd__law_some_weights [("_law_deck_here" : PySem.Str), ("_law_many" : PySem.Str)] (spF K m__law_some_weights) := fun base => w__law_some_weights C (O__law_pick base) (O__law_draw base) F__law_some_weights
  have O__law_some_weights : ∀ base : Heap, OkF P w K mg base 3 "_law_some_weights" [("_law_deck_here" : PySem.Str), ("_law_many" : PySem.Str)] m__law_some_weights := fun base => okF_of F__law_some_weights (W__law_some_weights base) (He.glo_ok X G (cd.fact 57 (f := .glo "_law_some_weights") rfl)) fun _ _ _ _ _ _ us hl => match us, hl with | [_, _], _ => rfl
  obtain ⟨fd__law_window, F__law_window⟩ := cd.def_ 58 (d := Hd.d__law_window) rfl
  have W__law_window : ∀ base : Heap, FnOk P w K mg base CX0 4 (He.ga K "_law_window") fd__law_window [("_law_deck_here" : PySem.Str), ("_law_many" : PySem.Str)] (spF K m__law_window) := fun base => w__law_window C (O__law_draw base) (O__law_some_weights base) (O__law_pick base) F__law_window
  have O__law_window : ∀ base : Heap, OkF P w K mg base 4 "_law_window" [("_law_deck_here" : PySem.Str), ("_law_many" : PySem.Str)] m__law_window := fun base => okF_of F__law_window (W__law_window base) (He.glo_ok X G (cd.fact 58 (f := .glo "_law_window") rfl)) fun _ _ _ _ _ _ us hl => match us, hl with | [_, _], _ => rfl
  obtain ⟨fd__law_vectors, F__law_vectors⟩ := cd.def_ 59 (d := Hd.d__law_vectors) rfl
  have W__law_vectors : ∀ base : Heap, FnOk P w K mg base CX0 2 (He.ga K "_law_vectors") fd__law_vectors [("_law_deck_here" : PySem.Str), ("_law_many" : PySem.Str), ("_law_d" : PySem.Str)] (spF K m__law_vectors) := fun base => w__law_vectors C (O__law_draw base) F__law_vectors
  have O__law_vectors : ∀ base : Heap, OkF P w K mg base 2 "_law_vectors" [("_law_deck_here" : PySem.Str), ("_law_many" : PySem.Str), ("_law_d" : PySem.Str)] m__law_vectors := fun base => okF_of F__law_vectors (W__law_vectors base) (He.glo_ok X G (cd.fact 59 (f := .glo "_law_vectors") rfl)) fun _ _ _ _ _ _ us hl => match us, hl with | [_, _, _], _ => rfl
  obtain ⟨fd__law_net, F__law_net⟩ := cd.def_ 60 (d := Hd.d__law_net) rfl
  have W__law_net : ∀ base : Heap, FnOk P w K mg base CX0 3 (He.ga K "_law_net") fd__law_net [("_law_deck_here" : PySem.Str), ("_law_many" : PySem.Str), ("_law_most" : PySem.Str)] (spF K m__law_net) := fun base => w__law_net C (O__law_draw base) (O__law_vectors base) F__law_net
  have O__law_net : ∀ base : Heap, OkF P w K mg base 3 "_law_net" [("_law_deck_here" : PySem.Str), ("_law_many" : PySem.Str), ("_law_most" : PySem.Str)] m__law_net := fun base => okFd_of F__law_net (W__law_net base) (He.glo_ok X G (cd.fact 60 (f := .glo "_law_net") rfl)) (fun z => by cases z) fun _ _ _ _ _ _ _ us its h1 h2 => match us, its, h1, h2 with | [_, _, _], [_], _, _ => ⟨_, rfl, rfl⟩
  have O__law_net_d : ∀ base : Heap, OkD P w K mg base 3 "_law_net" [("_law_deck_here" : PySem.Str), ("_law_many" : PySem.Str), ("_law_most" : PySem.Str)] m__law_net [.int 1] := fun base => okD_of F__law_net (W__law_net base) (He.glo_ok X G (cd.fact 60 (f := .glo "_law_net") rfl)) (fun z => by cases z) (Nat.le_of_ble_eq_true rfl) (fun _ _ => .cons (.int _) (.nil)) fun _ _ _ _ _ _ _ us its h1 h2 => match us, its, h1, h2 with | [_, _], [_], _, _ => ⟨_, rfl, rfl⟩
  obtain ⟨fd__law_vocabulary, F__law_vocabulary⟩ := cd.def_ 61 (d := Hd.d__law_vocabulary) rfl
  have W__law_vocabulary : ∀ base : Heap, FnOk P w K mg base CX0 3 (He.ga K "_law_vocabulary") fd__law_vocabulary [("_law_deck_here" : PySem.Str), ("_law_many" : PySem.Str)] (spF K m__law_vocabulary) := fun base => w__law_vocabulary C (O__law_pick base) (O__law_draw base) F__law_vocabulary
  have O__law_vocabulary : ∀ base : Heap, OkF P w K mg base 3 "_law_vocabulary" [("_law_deck_here" : PySem.Str), ("_law_many" : PySem.Str)] m__law_vocabulary := fun base => okF_of F__law_vocabulary (W__law_vocabulary base) (He.glo_ok X G (cd.fact 61 (f := .glo "_law_vocabulary") rfl)) fun _ _ _ _ _ _ us hl => match us, hl with | [_, _], _ => rfl
  obtain ⟨fd__law_words, F__law_words⟩ := cd.def_ 62 (d := Hd.d__law_words) rfl
  have W__law_words : ∀ base : Heap, FnOk P w K mg base CX0 1 (He.ga K "_law_words") fd__law_words [("_law_numbers" : PySem.Str)] (spF K m__law_words) := fun base => w__law_words C  F__law_words
  have O__law_words : ∀ base : Heap, OkF P w K mg base 1 "_law_words" [("_law_numbers" : PySem.Str)] m__law_words := fun base => okF_of F__law_words (W__law_words base) (He.glo_ok X G (cd.fact 62 (f := .glo "_law_words") rfl)) fun _ _ _ _ _ _ us hl => match us, hl with | [_], _ => rfl
  obtain ⟨fd__law_model_text, F__law_model_text⟩ := cd.def_ 63 (d := Hd.d__law_model_text) rfl
  have W__law_model_text : ∀ base : Heap, FnOk P w K mg base CX0 2 (He.ga K "_law_model_text") fd__law_model_text [("_law_model" : PySem.Str)] (spF K m__law_model_text) := fun base => w__law_model_text C (O__law_words base) F__law_model_text
  have O__law_model_text : ∀ base : Heap, OkF P w K mg base 2 "_law_model_text" [("_law_model" : PySem.Str)] m__law_model_text := fun base => okF_of F__law_model_text (W__law_model_text base) (He.glo_ok X G (cd.fact 63 (f := .glo "_law_model_text") rfl)) fun _ _ _ _ _ _ us hl => match us, hl with | [_], _ => rfl
  obtain ⟨fd__law_vocabulary_text, F__law_vocabulary_text⟩ := cd.def_ 64 (d := Hd.d__law_vocabulary_text) rfl
  have W__law_vocabulary_text : ∀ base : Heap, FnOk P w K mg base CX0 2 (He.ga K "_law_vocabulary_text") fd__law_vocabulary_text [("_law_vocabulary_here" : PySem.Str)] (spF K m__law_vocabulary_text) := fun base => w__law_vocabulary_text C (O__law_words base) F__law_vocabulary_text
  have O__law_vocabulary_text : ∀ base : Heap, OkF P w K mg base 2 "_law_vocabulary_text" [("_law_vocabulary_here" : PySem.Str)] m__law_vocabulary_text := fun base => okF_of F__law_vocabulary_text (W__law_vocabulary_text base) (He.glo_ok X G (cd.fact 64 (f := .glo "_law_vocabulary_text") rfl)) fun _ _ _ _ _ _ us hl => match us, hl with | [_], _ => rfl
  obtain ⟨fd_law, F_law⟩ := cd.def_ 65 (d := Hd.d_law) rfl
  have e := hfa.symm.trans (He.glo_ok X G (cd.fact 65 (f := .glo "law") rfl))
  cases e
  have b := FunD.bindsA (ps := [("_law_script" : PySem.Str)]) F_law fun _ _ _ _ _ _ us hl => match us, hl with | [_], _ => rfl
  exact ⟨fd_law, fun s v => b s [v] rfl, fun base _ _ => w_law C (O__law_deck base) (O__law_model_text base) (O_read_model base) (O__law_vocabulary base) (O__law_vocabulary_text base) (O_read_vocabulary base) (O__law_draw base) (O__law_net base) (O__law_window base) (O_model_weights base) (O_model_text base) (O__law_seen base) (O_vocabulary_text base) (O__law_net_d base) (O_model_text_k base) (O_vocabulary_text_k base) (O_read_model_k base) (O_read_vocabulary_k base) F_law⟩
end Wk
end
section
set_option Elab.async false
set_option linter.all false
set_option maxRecDepth 100000
set_option maxHeartbeats 0
open PySem PySem.W PySem.Calls PyProof.Rows
theorem holds_of (hp : ∀ ns : List Int, ns.length ≤ 63 → ∃ S', Wk.m_law [.cl (ns.map J.D.int)] [] = some (.bl true, S')) : PySem.Challenge.rw_draftward_k79_whole_texts_there_and_back.Holds := by
  w_on; o_law
  refine HandSHeadRun.head_any (r := OpenLaw.row PySem.Challenge.rw_draftward_k79_whole_texts_there_and_back) (q := view (OpenLaw.row PySem.Challenge.rw_draftward_k79_whole_texts_there_and_back).prog [87]) (H := Hd.hk) (ob := Hd.ob) (M := 40000) (loose := Hd.names) (d := HandSHeadRun.topDef (OpenLaw.row PySem.Challenge.rw_draftward_k79_whole_texts_there_and_back).prog 87) (kwd := []) Hd.ob_eq
    (by kernel_rfl) (fun s => by kernel_rfl) Hd.run (by kernel_rfl) (by kernel_rfl) (by kernel_rfl) (by rfl) (by first | assumption | decide +kernel) (by decide +kernel) ⟨rfl, rfl, rfl, rfl, rfl, by decide +kernel⟩ ?hw ?hc
  case hw => w_witness2
  case hc =>
    refine J.walk_ofG (l := PySem.Challenge.rw_draftward_k79_whole_texts_there_and_back) (n := 63) (k := 10) (x := "_law_script") (CX := L2.CX0) rfl (by decide) (by kernel_rfl) ⟨rfl, by decide, by decide⟩ ?F (fun _ _ _ _ z => z)
    intro w mg fa h Y G hmg0
    obtain ⟨K, KX, c⟩ := Y
    have hmg : mg ("law" : PySem.Str) = some (.ref fa) := by
      have e : (HandSHeadRun.topDef (OpenLaw.row PySem.Challenge.rw_draftward_k79_whole_texts_there_and_back).prog 87).name = ("law" : PySem.Str) := by kernel_rfl
      rw [← e]
      exact hmg0
    obtain ⟨fd, hb, hF⟩ := Wk.facts (P := (PySem.Challenge.rw_draftward_k79_whole_texts_there_and_back).prog) (w := w) KX G hmg c
    exact ⟨K, fd, J.spF K Wk.m_law, KX, hb, fun H a ns hl hO hS => (hp ns hl).elim fun S' e => J.sp_true hO hS (Nat.le_trans hl (by decide)) e, hF⟩
end
section
set_option Elab.async false
set_option linter.all false
set_option maxRecDepth 100000
set_option maxHeartbeats 400000
/-! P0: mirrors, evaluated. Own work. -/
namespace J
open PySem L2 PyProof.Rows PySem.Spec

/-! ev_begin: the combinators, opened -/
@[simp] theorem aNil_ev (ρ : Env') (S : Sto) : aNil ρ S = (some ([], S)) := rfl
@[simp] theorem aCons_ev (a : Env' → M D) (as : Env' → M (List D)) (ρ : Env') (S : Sto) : aCons a as ρ S = ((a ρ S).bind fun r => (as ρ r.2).bind fun q => some (r.1 :: q.1, q.2)) := rfl
@[simp] theorem e1_ev (f : D → Option D) (a : Env' → M D) (ρ : Env') (S : Sto) : e1 f a ρ S = ((a ρ S).bind fun r => (f r.1).bind fun z => some (z, r.2)) := rfl
@[simp] theorem e2_ev (f : D → D → Option D) (a b : Env' → M D) (ρ : Env') (S : Sto) : e2 f a b ρ S = ((a ρ S).bind fun r => (b ρ r.2).bind fun q => (f r.1 q.1).bind fun z => some (z, q.2)) := rfl
@[simp] theorem e2S_ev (f : Sto → D → D → Option D) (a b : Env' → M D) (ρ : Env') (S : Sto) : e2S f a b ρ S = ((a ρ S).bind fun r => (b ρ r.2).bind fun q => (f q.2 r.1 q.1).bind fun z => some (z, q.2)) := rfl
@[simp] theorem eN_ev (f : List D → Option D) (as : Env' → M (List D)) (ρ : Env') (S : Sto) : eN f as ρ S = ((as ρ S).bind fun r => (f r.1).bind fun z => some (z, r.2)) := rfl
@[simp] theorem eNS_ev (f : Sto → List D → Option D) (as : Env' → M (List D)) (ρ : Env') (S : Sto) : eNS f as ρ S = ((as ρ S).bind fun r => (f r.2 r.1).bind fun z => some (z, r.2)) := rfl
@[simp] theorem eF_ev (f : List D → M D) (as : Env' → M (List D)) (ρ : Env') (S : Sto) : eF f as ρ S = ((as ρ S).bind fun r => f r.1 r.2) := rfl
@[simp] theorem eTup_ev (as : Env' → M (List D)) (ρ : Env') (S : Sto) : eTup as ρ S = ((as ρ S).bind fun r => some (.tup r.1, r.2)) := rfl
@[simp] theorem eL_ev (as : Env' → M (List D)) (ρ : Env') (S : Sto) : eL as ρ S = ((as ρ S).bind fun r => some (.lst r.1, r.2)) := rfl
@[simp] theorem f2_ev (f : D → D → Option (List D)) (a b : Env' → M D) (ρ : Env') (S : Sto) : f2 f a b ρ S = ((a ρ S).bind fun r => (b ρ r.2).bind fun q => (f r.1 q.1).bind fun z => some (z, q.2)) := rfl
@[simp] theorem eAnd_ev (a b : Env' → M D) (ρ : Env') (S : Sto) : eAnd a b ρ S = ((a ρ S).bind fun r => match r.1 with
  | .bl true => b ρ r.2
  | .bl false => some (.bl false, r.2)
  | _ => none) := rfl
@[simp] theorem eOr_ev (a b : Env' → M D) (ρ : Env') (S : Sto) : eOr a b ρ S = ((a ρ S).bind fun r => match r.1 with
  | .bl false => b ρ r.2
  | .bl true => some (.bl true, r.2)
  | _ => none) := rfl
@[simp] theorem eNot_ev (a : Env' → M D) (ρ : Env') (S : Sto) : eNot a ρ S = ((a ρ S).bind fun r => match r.1 with
  | .bl c => some (.bl (!c), r.2)
  | _ => none) := rfl
@[simp] theorem eIf_ev (t : Env' → M Bool) (a b : Env' → M D) (ρ : Env') (S : Sto) : eIf t a b ρ S = ((t ρ S).bind fun r => if r.1 = true then a ρ r.2 else b ρ r.2) := rfl
@[simp] theorem tB_ev (a : Env' → M D) (ρ : Env') (S : Sto) : tB a ρ S = ((a ρ S).bind fun r => match r.1 with
  | .bl c => some (c, r.2)
  | _ => none) := rfl
@[simp] theorem tAnd_ev (a b : Env' → M Bool) (ρ : Env') (S : Sto) : tAnd a b ρ S = ((a ρ S).bind fun r => if r.1 = true then b ρ r.2 else some (false, r.2)) := rfl
@[simp] theorem tOr_ev (a b : Env' → M Bool) (ρ : Env') (S : Sto) : tOr a b ρ S = ((a ρ S).bind fun r => if r.1 = true then some (true, r.2) else b ρ r.2) := rfl
@[simp] theorem tNot_ev (a : Env' → M Bool) (ρ : Env') (S : Sto) : tNot a ρ S = ((a ρ S).bind fun r => some (!r.1, r.2)) := rfl
@[simp] theorem eChain_ev (f g : D → D → Option D) (a b c : Env' → M D) (ρ : Env') (S : Sto) : eChain f g a b c ρ S = ((a ρ S).bind fun r => (b ρ r.2).bind fun q => (f r.1 q.1).bind fun z => match z with
  | .bl true => (c ρ q.2).bind fun p => (g q.1 p.1).bind fun z => some (z, p.2)
  | .bl false => some (.bl false, q.2)
  | _ => none) := rfl
@[simp] theorem oNone_ev (ρ : Env') (S : Sto) : oNone ρ S = (some (none, S)) := rfl
@[simp] theorem oSome_ev (m : Env' → M D) (ρ : Env') (S : Sto) : oSome m ρ S = ((m ρ S).bind fun r => match r.1 with
  | .int i => some (some i, r.2)
  | _ => none) := rfl
@[simp] theorem e3_ev (f : D → Option Int → Option Int → Option D) (a : Env' → M D) (l u : Env' → M (Option Int)) (ρ : Env') (S : Sto) : e3 f a l u ρ S = ((a ρ S).bind fun r => (l ρ r.2).bind fun q => (u ρ q.2).bind fun p => (f r.1 q.1 p.1).bind fun z => some (z, p.2)) := rfl
@[simp] theorem iSeq_ev (m : Env' → M D) (ρ : Env') (S : Sto) : iSeq m ρ S = ((m ρ S).bind fun r => (itemsD r.1).bind fun ds => some (ds, r.2)) := rfl
@[simp] theorem iRange_ev (ms : Env' → M (List D)) (ρ : Env') (S : Sto) : iRange ms ρ S = ((ms ρ S).bind fun r => (rgD r.1).bind fun ds => some (ds, r.2)) := rfl
@[simp] theorem iEnum_ev (m : Env' → M D) (ρ : Env') (S : Sto) : iEnum m ρ S = ((m ρ S).bind fun r => (seqD r.1).bind fun ds => some (enumL 0 ds, r.2)) := rfl
@[simp] theorem iZip_ev (m m' : Env' → M D) (ρ : Env') (S : Sto) : iZip m m' ρ S = ((m ρ S).bind fun r => (m' ρ r.2).bind fun q => (seqD r.1).bind fun as => (seqD q.1).bind fun bs => some (zipL as bs, q.2)) := rfl
@[simp] theorem fLc_ev (it : Env' → M (List D)) (vs : List Nat) (T : Tg) (mt : Env' → M Bool) (me : Env' → M D) (ρ : Env') (S : Sto) : fLc it vs T mt me ρ S = ((it ρ S).bind fun r => lcGo (lcEl vs T mt me ρ) r.1 r.2) := rfl
@[simp] theorem eCell_ev (m : Env' → M (List D)) (ρ : Env') (S : Sto) : eCell m ρ S = ((m ρ S).bind fun r => if pureA r.1 = true then some (.ob r.2.length, r.2 ++ [.lst r.1]) else none) := rfl
@[simp] theorem eDic_ev (ks : List L2.Key) (m : Env' → M (List D)) (ρ : Env') (S : Sto) : eDic ks m ρ S = ((m ρ S).bind fun r => if pureA r.1 = true then some (.ob r.2.length, r.2 ++ [.dK (ks.zip r.1)]) else none) := rfl
@[simp] theorem eDicNew_ev (tup : Bool) (ρ : Env') (S : Sto) : eDicNew tup ρ S = (some (.ob S.length, S ++ [if tup = true then .dT [] else .dK []])) := rfl
@[simp] theorem ePop_ev (o : Env' → M D) (ρ : Env') (S : Sto) : ePop o ρ S = ((o ρ S).bind fun r => fPop r.2 r.1) := rfl
@[simp] theorem eAppC_ev (o a : Env' → M D) (ρ : Env') (S : Sto) : eAppC o a ρ S = ((o ρ S).bind fun r => if isLC r.2 r.1 = true then (a ρ r.2).bind fun q => (fAppC q.2 r.1 q.1).bind fun S' => some (.non, S') else none) := rfl
@[simp] theorem eRev_ev (m : Env' → M D) (ρ : Env') (S : Sto) : eRev m ρ S = ((m ρ S).bind fun r => (fRev r.1).bind fun z => some (z, r.2)) := rfl
@[simp] theorem eIsi_ev (n : TyN) (a : Env' → M D) (ρ : Env') (S : Sto) : eIsi n a ρ S = ((a ρ S).bind fun r => some (.bl (isiB r.2 n r.1), r.2)) := rfl
@[simp] theorem tT_ev (ρ : Env') (S : Sto) : tT ρ S = (some (true, S)) := rfl
@[simp] theorem eC_ev (d : D) (ρ : Env') (S : Sto) : eC d ρ S = (some (d, S)) := rfl
@[simp] theorem sNop_ev (ρ : LEnv) (S : Sto) : sNop ρ S = (some ((.nx, ρ), S)) := rfl
@[simp] theorem sNever_ev (ρ : LEnv) (S : Sto) : sNever ρ S = (none) := rfl
@[simp] theorem sSeq_ev (m1 m2 : SM) (ρ : LEnv) (S : Sto) : sSeq m1 m2 ρ S = ((m1 ρ S).bind fun r => match r.1.1 with
  | .nx => m2 r.1.2 r.2
  | _ => some r) := rfl
@[simp] theorem sSet_ev (i : Nat) (m : Env' → M D) (ρ : LEnv) (S : Sto) : sSet i m ρ S = ((m (vis ρ) S).bind fun r => putV i (.val r.1) ρ r.2) := rfl
@[simp] theorem sSetF_ev (i : Nat) (m : Env' → M D) (ρ : LEnv) (S : Sto) : sSetF i m ρ S = ((m (fz ρ) S).bind fun r => if flatD r.1 = true then putV i (.val r.1) ρ r.2 else none) := rfl
@[simp] theorem sOwn_ev (i : Nat) (m : Env' → M (List D)) (ρ : LEnv) (S : Sto) : sOwn i m ρ S = ((m (vis ρ) S).bind fun r => putV i (.own r.1) ρ r.2) := rfl
@[simp] theorem sDrop_ev (m : Env' → M D) (ρ : LEnv) (S : Sto) : sDrop m ρ S = ((m (vis ρ) S).bind fun r => some ((.nx, ρ), r.2)) := rfl
@[simp] theorem sPar_ev (i j : Nat) (a b : Env' → M D) (ρ : LEnv) (S : Sto) : sPar i j a b ρ S = ((a (vis ρ) S).bind fun r => (b (vis ρ) r.2).bind fun q => put2 i j (.val r.1) (.val q.1) ρ q.2) := rfl
@[simp] theorem sParF_ev (i j : Nat) (a b : Env' → M D) (ρ : LEnv) (S : Sto) : sParF i j a b ρ S = ((a (fz ρ) S).bind fun r => (b (fz ρ) r.2).bind fun q => if flatD r.1 = true ∧ flatD q.1 = true then put2 i j (.val r.1) (.val q.1) ρ q.2 else none) := rfl
@[simp] theorem sParVO_ev (i j : Nat) (a : Env' → M D) (b : Env' → M (List D)) (ρ : LEnv) (S : Sto) : sParVO i j a b ρ S = ((a (vis ρ) S).bind fun r => (b (vis ρ) r.2).bind fun q => put2 i j (.val r.1) (.own q.1) ρ q.2) := rfl
@[simp] theorem sParOO_ev (i j : Nat) (a : Env' → M (List D)) (b : Env' → M (List D)) (ρ : LEnv) (S : Sto) : sParOO i j a b ρ S = ((a (vis ρ) S).bind fun r => (b (vis ρ) r.2).bind fun q => put2 i j (.own r.1) (.own q.1) ρ q.2) := rfl
@[simp] theorem sAsg_ev (T : Tg) (m : Env' → M D) (ρ : LEnv) (S : Sto) : sAsg T m ρ S = ((m (vis ρ) S).bind fun r => (asgT LV.val T r.1 ρ).bind fun ρ' => some ((.nx, ρ'), r.2)) := rfl
@[simp] theorem sApp_ev (i : Nat) (m : Env' → M D) (ρ : LEnv) (S : Sto) : sApp i m ρ S = ((m (vis ρ) S).bind fun r => (ownAt i ρ).bind fun ds => if ds.length < sizeLine then putV i (.own (ds ++ [r.1])) ρ r.2 else none) := rfl
@[simp] theorem sAppF_ev (i : Nat) (m : Env' → M D) (ρ : LEnv) (S : Sto) : sAppF i m ρ S = ((m (fz ρ) S).bind fun r => (ownAt i ρ).bind fun ds => if flatD r.1 = true ∧ ds.length < sizeLine then putV i (.own (ds ++ [r.1])) ρ r.2 else none) := rfl
@[simp] theorem sExt_ev (i : Nat) (m : Env' → M D) (ρ : LEnv) (S : Sto) : sExt i m ρ S = ((m (vis ρ) S).bind fun r => (ownAt i ρ).bind fun ds => match r.1 with
  | .lst es => if ds.length + es.length ≤ sizeLine then putV i (.own (ds ++ es)) ρ r.2 else none
  | _ => none) := rfl
@[simp] theorem sIf_ev (t : Env' → M Bool) (m1 m2 : SM) (ρ : LEnv) (S : Sto) : sIf t m1 m2 ρ S = ((t (vis ρ) S).bind fun r => if r.1 = true then m1 ρ r.2 else m2 ρ r.2) := rfl
@[simp] theorem sIfF_ev (t : Env' → M Bool) (m1 m2 : SM) (ρ : LEnv) (S : Sto) : sIfF t m1 m2 ρ S = ((t (fz ρ) S).bind fun r => if r.1 = true then m1 ρ r.2 else m2 ρ r.2) := rfl
@[simp] theorem sRet_ev (m : Env' → M D) (ρ : LEnv) (S : Sto) : sRet m ρ S = ((m (fz ρ) S).bind fun r => some ((.ret r.1, kill ρ), r.2)) := rfl
@[simp] theorem sRetN_ev (ρ : LEnv) (S : Sto) : sRetN ρ S = (some ((.ret .non, ρ), S)) := rfl
@[simp] theorem sBrk_ev (ρ : LEnv) (S : Sto) : sBrk ρ S = (some ((.brk, ρ), S)) := rfl
@[simp] theorem sCnt_ev (ρ : LEnv) (S : Sto) : sCnt ρ S = (some ((.cnt, ρ), S)) := rfl
@[simp] theorem sKill_ev (m : SM) (ρ : LEnv) (S : Sto) : sKill m ρ S = (m (kill ρ) S) := rfl
@[simp] theorem sAug_ev (i : Nat) (f : D → D → Option D) (m : Env' → M D) (ρ : LEnv) (S : Sto) : sAug i f m ρ S = (match ρ[i]? with
  | some (some (.val d)) => (m (vis ρ) S).bind fun r => (f d r.1).bind fun z => putV i (.val z) ρ r.2
  | _ => none) := rfl
@[simp] theorem sFor_ev (it : Env' → M (List D)) (T : Tg) (mb : SM) (ρ : LEnv) (S : Sto) : sFor it T mb ρ S = ((it (vis ρ) S).bind fun r => sForGo T mb r.1 ρ r.2) := rfl
@[simp] theorem sPut_ev (o i v : Env' → M D) (ρ : LEnv) (S : Sto) : sPut o i v ρ S = ((v (vis ρ) S).bind fun r => (o (vis ρ) r.2).bind fun q => (i (vis ρ) q.2).bind fun p => (fPut p.2 q.1 p.1 r.1).bind fun S' => some ((.nx, ρ), S')) := rfl
@[simp] theorem sPutF_ev (o i v : Env' → M D) (ρ : LEnv) (S : Sto) : sPutF o i v ρ S = ((v (fz ρ) S).bind fun r => (o (fz ρ) r.2).bind fun q => (i (fz ρ) q.2).bind fun p => (fPut p.2 q.1 p.1 r.1).bind fun S' => some ((.nx, ρ), S')) := rfl
@[simp] theorem eVar_ev (i : Nat) (ρ : Env') (S : Sto) : eVar i ρ S = (match ρ[i]? with
  | some (some d) => some (d, S)
  | _ => none) := rfl
@[simp] theorem vis_nil : vis [] = [] := rfl
@[simp] theorem vis_val {d : D} {r : LEnv} : vis (some (.val d) :: r) = some d :: vis r := rfl
@[simp] theorem vis_own {d : List D} {r : LEnv} : vis (some (.own d) :: r) = none :: vis r := rfl
@[simp] theorem vis_none {r : LEnv} : vis (none :: r) = none :: vis r := rfl
@[simp] theorem fz_nil : fz [] = [] := rfl
@[simp] theorem fz_val {d : D} {r : LEnv} : fz (some (.val d) :: r) = some d :: fz r := rfl
@[simp] theorem fz_own {d : List D} {r : LEnv} : fz (some (.own d) :: r) = some (.lst d) :: fz r := rfl
@[simp] theorem fz_none {r : LEnv} : fz (none :: r) = none :: fz r := rfl
@[simp] theorem kill_nil : kill [] = [] := rfl
@[simp] theorem kill_val_ {d : D} {r : LEnv} : kill (some (.val d) :: r) = some (.val d) :: kill r := rfl
@[simp] theorem kill_own_ {d : List D} {r : LEnv} : kill (some (.own d) :: r) = some (.val (.lst d)) :: kill r := rfl
@[simp] theorem kill_none_ {r : LEnv} : kill (none :: r) = none :: kill r := rfl
@[simp] theorem putV_ev (i : Nat) (l : LV) (ρ : LEnv) (S : Sto) : putV i l ρ S = if i < ρ.length then some ((.nx, ρ.set i (some l)), S) else none := rfl
@[simp] theorem put2_ev (i j : Nat) (l k : LV) (ρ : LEnv) (S : Sto) : put2 i j l k ρ S = if i < ρ.length ∧ j < ρ.length then some ((.nx, (ρ.set i (some l)).set j (some k)), S) else none := rfl
@[simp] theorem ownAt_ev (i : Nat) (ρ : LEnv) : ownAt i ρ = (match ρ[i]? with
  | some (some (.own ds)) => some ds
  | _ => none) := rfl
@[simp] theorem asgT_nm {α : Type} (inj : D → α) (i : Nat) (d : D) (ρ : List (Option α)) : asgT inj (.nm i) d ρ = if i < ρ.length then some (ρ.set i (some (inj d))) else none := rfl
@[simp] theorem asgT_tp {α : Type} (inj : D → α) (ts : List Tg) (ds : List D) (ρ : List (Option α)) : asgT inj (.tp ts) (.tup ds) ρ = asgTs inj ts ds ρ := rfl
@[simp] theorem asgTs_nil {α : Type} (inj : D → α) (ρ : List (Option α)) : asgTs inj [] [] ρ = some ρ := rfl
@[simp] theorem asgTs_cons {α : Type} (inj : D → α) (t : Tg) (ts : List Tg) (d : D) (ds : List D) (ρ : List (Option α)) : asgTs inj (t :: ts) (d :: ds) ρ = (asgT inj t d ρ).bind fun ρ' => asgTs inj ts ds ρ' := rfl
@[simp] theorem wipeE_nil (ρ : Env') : wipeE ρ [] = ρ := rfl
@[simp] theorem wipeE_cons (ρ : Env') (v : Nat) (vs : List Nat) : wipeE ρ (v :: vs) = (wipeE ρ vs).set v none := rfl
/-! ev_end -/
theorem lcGo_map {α : Type} {vs : List Nat} {T : Tg} {mt : Env' → M Bool} {me : Env' → M D} {ρ : Env'} {S : Sto} (toD : α → D) (g : α → D) : ∀ xs : List α, (∀ x ∈ xs, lcEl vs T mt me ρ (toD x) S = some (some (g x), S)) →
    lcGo (lcEl vs T mt me ρ) (xs.map toD) S = some (xs.map g, S)
  | [], _ => rfl
  | x :: xs, h => by
    rw [List.map_cons, lcGo, h x List.mem_cons_self]
    show ((lcGo (lcEl vs T mt me ρ) (xs.map toD) S).bind _) = _
    rw [lcGo_map toD g xs fun y hy => h y (List.mem_cons_of_mem _ hy)]
    rfl
/-- the usual element: a target that fits, no condition -/
theorem lcEl_one {vs : List Nat} {T : Tg} {me : Env' → M D} {ρ ρ1 : Env'} {S S' : Sto} {d z : D} (h1 : asgT id T d (wipeE ρ vs) = some ρ1) (h2 : me ρ1 S = some (z, S')) : lcEl vs T tT me ρ d S = some (some z, S') := by
  unfold lcEl
  rw [h1]
  simp only [tT, Option.bind_some, if_true, h2]
/-- a tuple of ints, tuples of such -/
abbrev dI (l : List Int) : D := .tup (l.map D.int)
abbrev dII (l : List (List Int)) : D := .tup (l.map dI)
theorem zipL_ints : ∀ a b : List Int, zipL (a.map D.int) (b.map D.int) = (a.zip b).map fun p => .tup [.int p.1, .int p.2]
  | [], _ => by simp [zipL]
  | _ :: _, [] => by simp [zipL]
  | x :: a, y :: b => by simp [zipL, zipL_ints a b]

theorem eVar_at {i : Nat} {ρ : Env'} {S : Sto} {d : D} (h : ρ[i]? = some (some d)) : eVar i ρ S = some (d, S) := by
  unfold eVar; rw [h]
@[simp] theorem intsD_comp {α : Type} (f : α → Int) (xs : List α) : intsD (xs.map fun x => D.int (f x)) = some (xs.map f) := by
  have e : (xs.map fun x => D.int (f x)) = (xs.map f).map D.int := by rw [List.map_map]; rfl
  rw [e, intsD_map]
@[simp] theorem intsD_map1 (xs : List Int) : intsD (xs.map D.int) = some xs := intsD_map xs
@[simp] theorem strsD_comp {α : Type} (f : α → Str) (xs : List α) : strsD (xs.map fun x => D.str (f x)) = some (xs.map f) := by
  have e : (xs.map fun x => D.str (f x)) = (xs.map f).map D.str := by rw [List.map_map]; rfl
  rw [e, strsD_map]
@[simp] theorem strsD_map1 (xs : List Str) : strsD (xs.map D.str) = some xs := strsD_map xs
@[simp] theorem blsD_comp {α : Type} (f : α → Bool) (xs : List α) : blsD (xs.map fun x => D.bl (f x)) = some (xs.map f) := by
  have e : (xs.map fun x => D.bl (f x)) = (xs.map f).map D.bl := by rw [List.map_map]; rfl
  rw [e, blsD_map]
@[simp] theorem seqD_tup (xs : List D) : seqD (.tup xs) = some xs := rfl
@[simp] theorem seqD_lst (xs : List D) : seqD (.lst xs) = some xs := rfl
@[simp] theorem seqD_ct (xs : List D) : seqD (.ct xs) = some xs := rfl
@[simp] theorem itemsD_tup (xs : List D) : itemsD (.tup xs) = some xs := rfl
@[simp] theorem itemsD_lst (xs : List D) : itemsD (.lst xs) = some xs := rfl
@[simp] theorem itemsD_ct (xs : List D) : itemsD (.ct xs) = some xs := rfl
@[simp] theorem fTuple_lst (xs : List D) : fTuple [.lst xs] = some (.tup xs) := rfl
@[simp] theorem fTuple_tup (xs : List D) : fTuple [.tup xs] = some (.tup xs) := rfl
@[simp] theorem fLen_lst (xs : List D) : fLen [.lst xs] = some (.int xs.length) := rfl
@[simp] theorem fLen_tup (xs : List D) : fLen [.tup xs] = some (.int xs.length) := rfl
@[simp] theorem fLen_ct (xs : List D) : fLen [.ct xs] = some (.int xs.length) := rfl
@[simp] theorem fSum_lst (xs : List D) : fSum [.lst xs] = (intsD xs).map fun ns => .int ns.sum := rfl
@[simp] theorem fSum_tup (xs : List D) : fSum [.tup xs] = (intsD xs).map fun ns => .int ns.sum := rfl
@[simp] theorem fAll_lst (xs : List D) : fAll [.lst xs] = (blsD xs).map fun bs => .bl (bs.all id) := rfl
def mx (i j : Int) : Int := if j > i then j else i
def mn (i j : Int) : Int := if j < i then j else i
@[simp] theorem fMax_two (i j : Int) : fMax [.int i, .int j] = some (.int (mx i j)) := rfl
@[simp] theorem fMin_two (i j : Int) : fMin [.int i, .int j] = some (.int (mn i j)) := rfl
@[simp] theorem dSub_int (i j : Int) : dSub (.int i) (.int j) = some (.int (i - j)) := rfl
@[simp] theorem dAdd_int (i j : Int) : dAdd (.int i) (.int j) = some (.int (i + j)) := rfl
@[simp] theorem dNeg_int (i : Int) : dNeg (.int i) = some (.int (-i)) := rfl
@[simp] theorem dLt_int (i j : Int) : dLt (.int i) (.int j) = some (.bl (decide (i < j))) := rfl
@[simp] theorem dLe_int (i j : Int) : dLe (.int i) (.int j) = some (.bl (decide (i ≤ j))) := rfl
@[simp] theorem dGt_int (i j : Int) : dGt (.int i) (.int j) = some (.bl (decide (j < i))) := rfl
@[simp] theorem dGe_int (i j : Int) : dGe (.int i) (.int j) = some (.bl (decide (j ≤ i))) := rfl
@[simp] theorem dEq_int (S : Sto) (i j : Int) : dEq S (.int i) (.int j) = some (.bl (decide (i = j))) := rfl
@[simp] theorem dNe_int (S : Sto) (i j : Int) : dNe S (.int i) (.int j) = some (.bl (!decide (i = j))) := rfl
@[simp] theorem dEq_str (S : Sto) (i j : Str) : dEq S (.str i) (.str j) = some (.bl (decide (i = j))) := rfl
@[simp] theorem dNe_str (S : Sto) (i j : Str) : dNe S (.str i) (.str j) = some (.bl (!decide (i = j))) := rfl
@[simp] theorem dIx_tup (S : Sto) (xs : List D) (i : Int) : dIx S (.tup xs) (.int i) = L2.atI xs i := rfl
@[simp] theorem dIx_lst (S : Sto) (xs : List D) (i : Int) : dIx S (.lst xs) (.int i) = L2.atI xs i := rfl
@[simp] theorem dIx_ct (S : Sto) (xs : List D) (i : Int) : dIx S (.ct xs) (.int i) = L2.atI xs i := rfl
theorem atI_nat {α : Type} (xs : List α) (i : Nat) : L2.atI xs (i : Int) = xs[i]? := by
  unfold L2.atI L2.ixN
  rw [if_pos (Int.natCast_nonneg i)]
  by_cases h : i < xs.length
  · rw [if_pos (by omega)]; simp
  · rw [if_neg (by omega)]; simp; omega
@[simp] theorem atI_0 {α : Type} (xs : List α) : L2.atI xs 0 = xs[0]? := atI_nat xs 0
@[simp] theorem atI_1 {α : Type} (xs : List α) : L2.atI xs 1 = xs[1]? := atI_nat xs 1
@[simp] theorem atI_2 {α : Type} (xs : List α) : L2.atI xs 2 = xs[2]? := atI_nat xs 2
@[simp] theorem atI_3 {α : Type} (xs : List α) : L2.atI xs 3 = xs[3]? := atI_nat xs 3
@[simp] theorem atI_4 {α : Type} (xs : List α) : L2.atI xs 4 = xs[4]? := atI_nat xs 4
@[simp] theorem atI_5 {α : Type} (xs : List α) : L2.atI xs 5 = xs[5]? := atI_nat xs 5
@[simp] theorem atI_6 {α : Type} (xs : List α) : L2.atI xs 6 = xs[6]? := atI_nat xs 6

/-- for x in xs: acc.append(m) -/
theorem for_app {α : Type} (toD g : α → D) {i j : Nat} (hij : i ≠ j) {m : Env' → M D} {S : Sto} {ρ : LEnv} (hi : i < ρ.length) (hj : j < ρ.length) : ∀ (xs : List α) (acc : List D) (o : Option LV), acc.length + xs.length ≤ sizeLine →
    (∀ x ∈ xs, ∀ acc', m (vis ((ρ.set j (some (.val (toD x)))).set i (some (.own acc')))) S = some (g x, S)) →
    ∃ o', sForGo (.nm j) (sApp i m) (xs.map toD) ((ρ.set j o).set i (some (.own acc))) S = some ((.nx, (ρ.set j o').set i (some (.own (acc ++ xs.map g)))), S)
  | [], acc, o, _, _ => ⟨o, by simp [sForGo]⟩
  | x :: xs, acc, o, hz, h => by
    have e1 : (((ρ.set j o).set i (some (.own acc))).set j (some (.val (toD x)))) = (ρ.set j (some (.val (toD x)))).set i (some (.own acc)) := by
      rw [List.set_comm _ _ hij, List.set_set]
    have hx := h x List.mem_cons_self acc
    obtain ⟨o', ih⟩ := for_app toD g hij hi hj xs (acc ++ [g x]) (some (.val (toD x))) (by simp at hz ⊢; omega) fun y hy => h y (List.mem_cons_of_mem _ hy)
    refine ⟨o', ?_⟩
    have e2 : ((ρ.set j (some (.val (toD x)))).set i (some (.own acc)))[i]? = some (some (.own acc)) := by
      rw [List.getElem?_set_self (by simpa using hi)]
    have hl : acc.length < sizeLine := by simp at hz; omega
    simp only [List.map_cons, sForGo, asgT_nm, List.length_set, hj, if_true, Option.bind_some, e1, sApp_ev, hx, ownAt_ev, e2, hl, putV_ev, hi, List.set_set]
    rw [ih]
    simp
theorem zipL_map {α β : Type} (f : α → D) (g : β → D) : ∀ (as : List α) (bs : List β), zipL (as.map f) (bs.map g) = (as.zip bs).map fun p => .tup [f p.1, g p.2]
  | [], _ => by simp [zipL]
  | _ :: _, [] => by simp [zipL]
  | a :: as, b :: bs => by simp [zipL, zipL_map f g as bs]
@[simp] theorem dAdd_lst (xs ys : List D) : dAdd (.lst xs) (.lst ys) = if xs.length + ys.length ≤ sizeLine then some (.lst (xs ++ ys)) else none := rfl
@[simp] theorem dAdd_tup (xs ys : List D) : dAdd (.tup xs) (.tup ys) = if xs.length + ys.length ≤ sizeLine then some (.tup (xs ++ ys)) else none := rfl
theorem line_small {n : Nat} (h : n ≤ 100000) : n ≤ sizeLine := Nat.le_trans h (by decide)
theorem rgD_nat {n : Nat} (h : n ≤ 100000) : rgD [.int (n : Int)] = some ((List.range n).map fun i => .int (i : Nat)) := by
  have h1 : ((n : Nat) : Int) ≤ (sizeLine : Nat) ∧ -(2 ^ 62) ≤ (n : Int) := ⟨by have := line_small h; omega, by omega⟩
  simp only [rgD, h1, and_self, if_true, rangeD]
  simp
theorem lcEl_tT (vs : List Nat) (T : Tg) (me : Env' → M D) (ρ : Env') (d : D) (S : Sto) : lcEl vs T tT me ρ d S = (asgT id T d (wipeE ρ vs)).bind fun ρ1 => (me ρ1 S).bind fun z => some (some z.1, z.2) := by
  simp only [lcEl, tT_ev, Option.bind_some, if_true]
theorem lcEl_if (vs : List Nat) (T : Tg) (mt : Env' → M Bool) (me : Env' → M D) (ρ : Env') (d : D) (S : Sto) : lcEl vs T mt me ρ d S = (asgT id T d (wipeE ρ vs)).bind fun ρ1 => (mt ρ1 S).bind fun q => if q.1 = true then (me ρ1 q.2).bind fun z => some (some z.1, z.2) else some (none, q.2) := rfl
@[simp] theorem LV.v_val (d : D) : LV.v (.val d) = some d := rfl
@[simp] theorem LV.v_own (d : List D) : LV.v (.own d) = none := rfl
@[simp] theorem LV.d_val (d : D) : LV.d (.val d) = d := rfl
@[simp] theorem LV.d_own (d : List D) : LV.d (.own d) = .lst d := rfl
theorem vis_cons (o : Option LV) (r : LEnv) : vis (o :: r) = o.bind LV.v :: vis r := rfl
theorem fz_cons (o : Option LV) (r : LEnv) : fz (o :: r) = o.map LV.d :: fz r := rfl
theorem kill_cons (o : Option LV) (r : LEnv) : kill (o :: r) = (o.map fun l => LV.val l.d) :: kill r := rfl
end J
end
section
set_option Elab.async false
set_option linter.all false
set_option maxRecDepth 100000
set_option maxHeartbeats 400000
namespace Wk
open PySem J

/-! ### vectors -/
def dot (a b : List Int) : Int := ((a.zip b).map fun p => p.1 * p.2).sum
def B64 (x : Int) : Prop := -(2 ^ 64) < x ∧ x < 2 ^ 64
def Sm (l : List Int) : Prop := ∀ x ∈ l, B64 x
theorem m_scalar_eq {da db : D} {a b : List Int} {S : Sto} (h1 : seqD da = some (a.map D.int)) (h2 : seqD db = some (b.map D.int)) (ha : Sm a) : m_scalar [da, db] S = some (.int (dot a b), S) := by
  have h : lcGo (lcEl [2, 3] (.tp [.nm 2, .nm 3]) tT (e2 dMul (eVar 2) (eVar 3)) [some da, some db, none, none]) ((a.zip b).map fun p => .tup [.int p.1, .int p.2]) S = some ((a.zip b).map fun p => .int (p.1 * p.2), S) :=
    lcGo_map _ _ _ fun p hp => lcEl_one rfl (by
      have h2 : L2.CMul p.1 p.2 := .inl (ha p.1 (List.of_mem_zip hp).1)
      simp [dMul, h2])
  simp [m_scalar, runDef, b_scalar, h1, h2, zipL_ints, h, dot]
def times (M : List (List Int)) (v : List Int) : List Int := M.map fun r => dot r v
theorem m_times_eq {dM dv : D} {M : List (List Int)} {v : List Int} {S : Sto} (h1 : itemsD dM = some (M.map dI)) (h2 : seqD dv = some (v.map D.int)) (ha : ∀ r ∈ M, Sm r) : m_times [dM, dv] S = some (dI (times M v), S) := by
  have h : lcGo (lcEl [2] (.nm 2) tT (eF m_scalar (aCons (eVar 2) (aCons (eVar 1) aNil))) [some dM, some dv, none]) (M.map dI) S = some (M.map fun r => .int (dot r v), S) :=
    lcGo_map _ _ _ fun r hr => lcEl_one rfl (by
      have e : m_scalar [dI r, dv] S = some (.int (dot r v), S) := m_scalar_eq rfl h2 (ha r hr)
      simp [e])
  simp [m_times, runDef, b_times, h1, h, times]
def cl (x : Int) : Int := mx (-20) (mn 20 x)
theorem cl_bd (x : Int) : -20 ≤ cl x ∧ cl x ≤ 20 := by
  unfold cl mx mn; split <;> split <;> omega
theorem m_clipped_eq {dv : D} {v : List Int} {S : Sto} (h1 : itemsD dv = some (v.map D.int)) : m_clipped [dv] S = some (dI (v.map cl), S) := by
  have h : lcGo (lcEl [1] (.nm 1) tT (eN fMax (aCons (e1 dNeg (eC (.int 20))) (aCons (eN fMin (aCons (eC (.int 20)) (aCons (eVar 1) aNil))) aNil))) [some dv, none]) (v.map D.int) S = some (v.map fun x => .int (cl x), S) :=
    lcGo_map _ _ _ fun x hx => lcEl_one rfl (by simp [cl])
  simp [m_clipped, runDef, b_clipped, h1, h]
def plus (a b : List Int) : List Int := (a.zip b).map fun p => cl (p.1 + p.2)
theorem m_plus_eq {da db : D} {a b : List Int} {S : Sto} (h1 : seqD da = some (a.map D.int)) (h2 : seqD db = some (b.map D.int)) : m_plus [da, db] S = some (dI (plus a b), S) := by
  have h : lcGo (lcEl [2, 3] (.tp [.nm 2, .nm 3]) tT (e2 dAdd (eVar 2) (eVar 3)) [some da, some db, none, none]) ((a.zip b).map fun p => .tup [.int p.1, .int p.2]) S = some ((a.zip b).map fun p => .int (p.1 + p.2), S) :=
    lcGo_map _ _ _ fun p hp => lcEl_one rfl (by simp)
  have e : itemsD (.lst ((a.zip b).map fun p => .int (p.1 + p.2))) = some (((a.zip b).map fun p => p.1 + p.2).map D.int) := by simp [List.map_map]
  have h3 := m_clipped_eq (S := S) e
  simp [m_plus, runDef, b_plus, h1, h2, zipL_ints, h, h3, plus, List.map_map]
def shares (l : List Int) : List Int := l.map fun s => 2 ^ (mx 0 (6 - (maxL l - s))).toNat
theorem m_shares_eq {dv : D} {l : List Int} {S : Sto} (h1 : dv = .lst (l.map D.int)) (h0 : l ≠ []) : m_shares_of [dv] S = some (.lst ((shares l).map D.int), S) := by
  subst h1
  have h : lcGo (lcEl [2] (.nm 2) tT (e2 dShl (eC (.int 1)) (eN fMax (aCons (eC (.int 0)) (aCons (e2 dSub (eC (.int 6)) (e2 dSub (eVar 1) (eVar 2))) aNil)))) [some (.lst (l.map D.int)), some (.int (maxL l)), none]) (l.map D.int) S = some (l.map fun s => .int (2 ^ (mx 0 (6 - (maxL l - s))).toNat), S) :=
    lcGo_map _ _ _ fun x hx => lcEl_one rfl (by
      have h3 := maxL_le hx
      have h2 : L2.CPow 1 (mx 0 (6 - (maxL l - x))) := by
        unfold L2.CPow mx
        refine ⟨?_, ?_, by decide⟩ <;> split <;> omega
      simp [dShl, h2])
  have e : fMax [.lst (l.map D.int)] = some (.int (maxL l)) := by simp [fMax, h0]
  simp [m_shares_of, runDef, b_shares_of, e, h, shares]

/-! ### a layer -/
abbrev Pr := List Int × List Int
abbrev dPr (p : Pr) : D := .tup [dI p.1, dI p.2]
structure Lay where
  q : List (List Int)
  k : List (List Int)
  v : List (List Int)
  m : List (List Int)
abbrev dLay (l : Lay) : D := .tup [dII l.q, dII l.k, dII l.v, dII l.m]
def own (l : Lay) (st : List Int) : Pr := (times l.k st, times l.v st)
def ansAt (sh : List Int) (pairs : List Pr) (i : Nat) : Int := ((sh.zip pairs).map fun sp => sp.1 * (sp.2.2.getD i 0)).sum / sh.sum
def answer (sh : List Int) (pairs : List Pr) (d : Nat) : List Int := (List.range d).map (ansAt sh pairs)
/-- the state behind a layer, from all pairs so far -/
def after (l : Lay) (st : List Int) (pairs : List Pr) : List Int :=
  plus st (times l.m (answer (shares (pairs.map fun p => dot (times l.q st) p.1)) pairs st.length))
/-- vectors of d numbers of at most n -/
def Vn (n : Int) (d : Nat) (l : List Int) : Prop := l.length = d ∧ ∀ x ∈ l, -n ≤ x ∧ x ≤ n
def Mn (n : Int) (d : Nat) (M : List (List Int)) : Prop := M.length = d ∧ ∀ r ∈ M, Vn n d r
structure LayOk (d : Nat) (l : Lay) : Prop where
  q : Mn 3 d l.q
  k : Mn 3 d l.k
  v : Mn 3 d l.v
  m : Mn 3 d l.m
theorem Vn.sm {n : Int} {d : Nat} {l : List Int} (h : Vn n d l) (hn : n < 2 ^ 64) : Sm l := fun x hx => by
  have := h.2 x hx
  exact ⟨by omega, by omega⟩
theorem Mn.sm {n : Int} {d : Nat} {M : List (List Int)} (h : Mn n d M) (hn : n < 2 ^ 64) : ∀ r ∈ M, Sm r := fun r hr => (h.2 r hr).sm hn
theorem mul_bd {x y n m : Int} (h1 : -n ≤ x ∧ x ≤ n) (h2 : -m ≤ y ∧ y ≤ m) (hn : 0 ≤ n) (hm : 0 ≤ m) : -(n * m) ≤ x * y ∧ x * y ≤ n * m := by
  have a : x.natAbs ≤ n.natAbs := by omega
  have b : y.natAbs ≤ m.natAbs := by omega
  have c : (x * y).natAbs ≤ (n * m).natAbs := by rw [Int.natAbs_mul, Int.natAbs_mul]; exact Nat.mul_le_mul a b
  have e : 0 ≤ n * m := Int.mul_nonneg hn hm
  omega
theorem dot_bd {n m : Int} (hn : 0 ≤ n) (hm : 0 ≤ m) : ∀ {a b : List Int}, (∀ x ∈ a, -n ≤ x ∧ x ≤ n) → (∀ x ∈ b, -m ≤ x ∧ x ≤ m) → -(a.length * (n * m)) ≤ dot a b ∧ dot a b ≤ a.length * (n * m)
  | [], b, _, _ => by simp [dot]
  | x :: a, [], _, _ => by
    have e : 0 ≤ n * m := Int.mul_nonneg hn hm
    have : 0 ≤ (((x :: a).length : Nat) : Int) * (n * m) := Int.mul_nonneg (by omega) e
    simp only [dot, List.zip_nil_right, List.map_nil, List.sum_nil]
    omega
  | x :: a, y :: b, h1, h2 => by
    have ih := dot_bd hn hm (a := a) (b := b) (fun z hz => h1 z (List.mem_cons_of_mem _ hz)) (fun z hz => h2 z (List.mem_cons_of_mem _ hz))
    have xy := mul_bd (h1 x List.mem_cons_self) (h2 y List.mem_cons_self) hn hm
    have e : dot (x :: a) (y :: b) = x * y + dot a b := by simp [dot]
    rw [e, List.length_cons]
    have e2 : ((a.length + 1 : Nat) : Int) * (n * m) = a.length * (n * m) + n * m := by rw [Int.natCast_add, Int.add_mul]; simp
    rw [e2]
    omega
theorem times_len (M : List (List Int)) (v : List Int) : (times M v).length = M.length := by simp [times]
theorem times_bd {n m : Int} {d : Nat} {M : List (List Int)} {v : List Int} (hn : 0 ≤ n) (hm : 0 ≤ m) (h : Mn n d M) (hv : Vn m d v) : Vn (d * (n * m)) d (times M v) := by
  refine ⟨by rw [times_len]; exact h.1, fun x hx => ?_⟩
  obtain ⟨r, hr, rfl⟩ := List.mem_map.mp hx
  have := dot_bd hn hm (h.2 r hr).2 hv.2
  rw [(h.2 r hr).1] at this
  exact this
theorem shares_pos (l : List Int) : ∀ s ∈ shares l, 1 ≤ s ∧ (s ≤ 64) := fun s hs => by
  obtain ⟨x, hx, rfl⟩ := List.mem_map.mp hs
  have h3 := maxL_le hx
  have h6 : mx 0 (6 - (maxL l - x)) ≤ 6 ∧ 0 ≤ mx 0 (6 - (maxL l - x)) := by unfold mx; split <;> omega
  generalize mx 0 (6 - (maxL l - x)) = y at h6
  obtain ⟨k, rfl⟩ := Int.eq_ofNat_of_zero_le h6.2
  have hk : k ≤ 6 := by omega
  have : k = 0 ∨ k = 1 ∨ k = 2 ∨ k = 3 ∨ k = 4 ∨ k = 5 ∨ k = 6 := by omega
  rcases this with rfl | rfl | rfl | rfl | rfl | rfl | rfl <;> decide
theorem sum_bd : ∀ {l : List Int} {lo hi : Int}, (∀ s ∈ l, lo ≤ s ∧ s ≤ hi) → l.length * lo ≤ l.sum ∧ l.sum ≤ l.length * hi
  | [], _, _, _ => by simp
  | x :: l, lo, hi, h => by
    have ih := sum_bd (l := l) fun s hs => h s (List.mem_cons_of_mem _ hs)
    have h1 := h x List.mem_cons_self
    rw [List.sum_cons, List.length_cons]
    have e1 : ((l.length + 1 : Nat) : Int) * lo = l.length * lo + lo := by rw [Int.natCast_add, Int.add_mul]; simp
    have e2 : ((l.length + 1 : Nat) : Int) * hi = l.length * hi + hi := by rw [Int.natCast_add, Int.add_mul]; simp
    rw [e1, e2]
    omega
theorem m_layer_done_eq {d : Nat} {l : Lay} {st : List Int} {kept : List Pr} {S : Sto} (hd : d ≤ 4) (hl : LayOk d l) (hst : Vn 20 d st) (hk : kept.length ≤ 1000) (hk2 : ∀ p ∈ kept, p.2.length = d) :
    m_layer_done [dLay l, dI st, .lst (kept.map dPr)] S = some (.tup [dPr (own l st), dI (after l st (kept ++ [own l st]))], S) := by
  have t1 : m_times [dII l.k, dI st] S = some (dI (times l.k st), S) := m_times_eq rfl rfl (hl.k.sm (by decide))
  have t2 : m_times [dII l.v, dI st] S = some (dI (times l.v st), S) := m_times_eq rfl rfl (hl.v.sm (by decide))
  have t3 : m_times [dII l.q, dI st] S = some (dI (times l.q st), S) := m_times_eq rfl rfl (hl.q.sm (by decide))
  have bq : Vn (d * (3 * 20)) d (times l.q st) := times_bd (by decide) (by decide) hl.q hst
  have sq : Sm (times l.q st) := bq.sm (by
    have : (d : Int) ≤ 4 := by omega
    omega)
  have z1 : kept.length + 1 ≤ sizeLine := line_small (by omega)
  generalize hp : kept ++ [own l st] = pairs
  have hpl : pairs.length = kept.length + 1 := by rw [← hp]; simp
  have e1 : kept.map dPr ++ [D.tup [dI (times l.k st), dI (times l.v st)]] = pairs.map dPr := by rw [← hp]; simp [own]
  have hp2 : ∀ p ∈ pairs, p.2.length = d := fun p hm => by
    rw [← hp] at hm
    rcases List.mem_append.mp hm with q | q
    · exact hk2 p q
    · rw [List.mem_singleton.mp q]
      show (times l.v st).length = d
      rw [times_len]; exact hl.v.1
  have bst : st.length = d := hst.1
  generalize hsc : pairs.map (fun p => dot (times l.q st) p.1) = sc
  have hscl : sc.length = pairs.length := by rw [← hsc]; simp
  have hsc0 : sc ≠ [] := fun z => by rw [z] at hscl; simp at hscl; omega
  -- the scores
  have l1 : ∀ a b c e f g h i j k m n o ρ10, lcGo (lcEl [11] (.nm 11) tT (eF m_scalar (aCons (eVar 9) (aCons (e2S dIx (eVar 11) (eC (.int 0))) aNil))) [a, b, c, e, f, g, h, i, j, some (dI (times l.q st)), ρ10, k, m, n, o, none]) (pairs.map dPr) S = some (pairs.map fun p => .int (dot (times l.q st) p.1), S) := fun a b c e f g h i j k m n o ρ10 =>
    lcGo_map _ _ _ fun p hp => lcEl_one rfl (by
      have e : m_scalar [dI (times l.q st), dI p.1] S = some (.int (dot (times l.q st) p.1), S) := m_scalar_eq rfl rfl sq
      simp [e])
  have es : (pairs.map fun p => D.int (dot (times l.q st) p.1)) = sc.map D.int := by rw [← hsc, List.map_map]; rfl
  have s1 : m_shares_of [.lst (sc.map D.int)] S = some (.lst ((shares sc).map D.int), S) := m_shares_eq rfl hsc0
  generalize hsh : shares sc = sh at s1
  have hpos : ∀ s ∈ sh, 1 ≤ s ∧ s ≤ 64 := by rw [← hsh]; exact shares_pos sc
  have hshl : sh.length = pairs.length := by rw [← hsh, ← hscl]; simp [shares]
  have htot := sum_bd hpos
  have hdiv : ∀ x, L2.CDiv x sh.sum := fun x => by unfold L2.CDiv; omega
  -- the answer
  have l2 : ∀ (i : Nat), i < d → ∀ a b c e f g h y k m n o pp, lcGo (lcEl [15, 11] (.tp [.nm 15, .nm 11]) tT (e2 dMul (eVar 15) (e2S dIx (e2S dIx (eVar 11) (eC (.int 1))) (eVar 14))) [a, b, c, e, f, g, h, y, k, m, n, pp, o, none, some (.int (i : Nat)), none]) ((sh.zip pairs).map fun p => .tup [.int p.1, dPr p.2]) S =
      some ((sh.zip pairs).map fun sp => .int (sp.1 * (sp.2.2.getD i 0)), S) := fun i hi a b c e f g h y k m n o pp =>
    lcGo_map _ _ _ fun p hpm => (by
      rw [lcEl_tT]
      have hm := List.of_mem_zip hpm
      have h2 := hp2 p.2 hm.2
      have h1 := hpos p.1 hm.1
      obtain ⟨y, g1, g2⟩ : ∃ y, p.2.2[i]? = some y ∧ p.2.2.getD i 0 = y :=
        ⟨p.2.2[i]'(by omega), List.getElem?_eq_getElem _, by rw [List.getD_eq_getElem?_getD, List.getElem?_eq_getElem (by omega)]; rfl⟩
      rw [g2]
      have c1 : L2.CMul p.1 y := .inl ⟨by omega, by omega⟩
      simp [atI_nat, g1, dMul, c1])
  obtain ⟨o', l3⟩ := for_app (m := e2 dDiv (eN fSum (aCons (eL (fLc (iZip (eVar 10) (eVar 8)) [15, 11] (.tp [.nm 15, .nm 11]) (tT) (e2 dMul (eVar 15) (e2S dIx (e2S dIx (eVar 11) (eC (.int 1))) (eVar 14))))) (aNil))) (eVar 12)) (S := S) (fun i : Nat => D.int (i : Nat)) (fun i : Nat => D.int (ansAt sh pairs i)) (i := 13) (j := 14) (by decide)
    (ρ := [some (.val (dLay l)), some (.val (dI st)), some (.val (.lst (kept.map dPr))), some (.val (dII l.q)), some (.val (dII l.k)), some (.val (dII l.v)), some (.val (dII l.m)), some (.val (.tup [dI (times l.k st), dI (times l.v st)])), some (.val (.lst (pairs.map dPr))), some (.val (dI (times l.q st))), some (.val (.lst (sh.map D.int))), none, some (.val (.int sh.sum)), some (.own []), none, none]) (by simp) (by simp) (List.range d) [] none (line_small (by simp; omega))
    (fun i hi acc => by
      have hi' : i < d := List.mem_range.mp hi
      simp (maxSteps := 4000000) [zipL_map, l2 i hi', dDiv, hdiv, ansAt])
  have t4 : m_times [dII l.m, .lst ((List.range d).map fun i => D.int (ansAt sh pairs i))] S = some (dI (times l.m (answer sh pairs d)), S) := m_times_eq rfl (by simp [answer, List.map_map]) (hl.m.sm (by decide))
  have t5 : m_plus [dI st, dI (times l.m (answer sh pairs d))] S = some (dI (plus st (times l.m (answer sh pairs d))), S) := m_plus_eq rfl rfl
  have r1 := rgD_nat (n := d) (by omega)
  simp at l3
  simp (maxSteps := 4000000) [m_layer_done, runDef, b_layer_done, t1, t2, t3, z1, e1, l1, es, s1, r1, l3, t4, t5, bst]
  exact ⟨⟨rfl, rfl⟩, by rw [after, hsc, hsh, bst]⟩
end Wk
end
section
set_option Elab.async false
set_option linter.all false
set_option maxRecDepth 100000
set_option maxHeartbeats 800000
/-! P2: a step of a network, by rows. Own work. -/
namespace Wk
open PySem J
abbrev dRow (r : List Pr) : D := .tup (r.map dPr)
structure Net where
  many : Nat
  d : Nat
  em : List (List Int)
  pl : List (List Int)
  ls : List Lay
  ou : List (List Int)
abbrev dNet (N : Net) : D := .tup [.str "net", .int (N.many : Nat), .int (N.d : Nat), dII N.em, dII N.pl, .tup (N.ls.map dLay), dII N.ou]
structure NetOk (N : Net) : Prop where
  many : 2 ≤ N.many ∧ N.many ≤ 6
  d : 1 ≤ N.d ∧ N.d ≤ 2
  em : Mn 3 N.many N.em ∨ True
  emr : ∀ r ∈ N.em, Vn 3 N.d r
  eml : N.em.length = N.many
  plr : ∀ r ∈ N.pl, Vn 3 N.d r
  pl0 : 1 ≤ N.pl.length ∧ N.pl.length ≤ 3
  ls : ∀ l ∈ N.ls, LayOk N.d l
  lsl : N.ls.length ≤ 3
  our : ∀ r ∈ N.ou, Vn 3 N.d r
  oul : N.ou.length = N.many
def runL (rows : List (List Pr)) : List Lay → Nat → List Int → List Pr × List Int
  | [], _, st => ([], st)
  | l :: ls, i, st => ((own l st :: (runL rows ls (i + 1) (after l st (rows.map (·.getD i ([], [])) ++ [own l st]))).1), (runL rows ls (i + 1) (after l st (rows.map (·.getD i ([], [])) ++ [own l st]))).2)
theorem plus_ok {d : Nat} {a b : List Int} (h1 : a.length = d) (h2 : b.length = d) : Vn 20 d (plus a b) := by
  refine ⟨by simp [plus, h1, h2], fun x hx => ?_⟩
  obtain ⟨p, _, rfl⟩ := List.mem_map.mp hx
  have := cl_bd (p.1 + p.2)
  omega
theorem after_ok {d : Nat} {l : Lay} {st : List Int} {ps : List Pr} (hl : LayOk d l) (hs : Vn 20 d st) : Vn 20 d (after l st ps) :=
  plus_ok hs.1 (by rw [times_len]; exact hl.m.1)
theorem own_len {d : Nat} {l : Lay} {st : List Int} (hl : LayOk d l) : (own l st).1.length = d ∧ (own l st).2.length = d := ⟨by show (times l.k st).length = d; rw [times_len]; exact hl.k.1, by show (times l.v st).length = d; rw [times_len]; exact hl.v.1⟩
theorem runL_ok {d : Nat} {rows : List (List Pr)} : ∀ {ls : List Lay} {i : Nat} {st : List Int}, (∀ l ∈ ls, LayOk d l) → Vn 20 d st → (runL rows ls i st).1.length = ls.length ∧ Vn 20 d (runL rows ls i st).2 ∧ ∀ p ∈ (runL rows ls i st).1, p.2.length = d
  | [], _, _, _, h => ⟨rfl, h, fun p hp => absurd hp List.not_mem_nil⟩
  | l :: ls, i, st, hl, h => by
    have h1 := hl l List.mem_cons_self
    obtain ⟨a, b, c⟩ := runL_ok (rows := rows) (ls := ls) (i := i + 1) (fun x hx => hl x (List.mem_cons_of_mem _ hx)) (after_ok (ps := rows.map (·.getD i ([], [])) ++ [own l st]) h1 h)
    refine ⟨by simp only [runL, List.length_cons, a], b, fun p hp => ?_⟩
    rcases List.mem_cons.mp hp with q | q
    · rw [q]; exact (own_len h1).2
    · exact c p q
def netBody : SM := (sSeq (sAsg (.tp [.nm 14, .nm 10]) (eF m_layer_done (aCons (eVar 13) (aCons (eVar 10) (aCons (eL (fLc (iSeq (eVar 1)) [15] (.nm 15) (tT) (e2S dIx (eVar 15) (eVar 12)))) (aNil))))))
    (sApp 11 (eVar 14)))
theorem net_loop {d L : Nat} {rows : List (List Pr)} {S : Sto} (hd : d ≤ 4) (hr : rows.length ≤ 1000) (hrow : ∀ r ∈ rows, r.length = L ∧ ∀ p ∈ r, p.2.length = d) (v0 v2 v3 v4 v5 v6 v7 v8 v9 : D) : ∀ (ls : List Lay) (i : Nat) (st : List Int) (acc : List D) (o12 o13 o14 : Option LV), i + ls.length = L → acc.length + ls.length ≤ 1000 → (∀ l ∈ ls, LayOk d l) → Vn 20 d st →
    ∃ o12' o13' o14', sForGo (.tp [.nm 12, .nm 13]) netBody (enumL i (ls.map dLay)) [some (.val v0), some (.val (.lst (rows.map dRow))), some (.val v2), some (.val v3), some (.val v4), some (.val v5), some (.val v6), some (.val v7), some (.val v8), some (.val v9), some (.val (dI st)), some (.own acc), o12, o13, o14, none, none] S =
      some ((.nx, [some (.val v0), some (.val (.lst (rows.map dRow))), some (.val v2), some (.val v3), some (.val v4), some (.val v5), some (.val v6), some (.val v7), some (.val v8), some (.val v9), some (.val (dI (runL rows ls i st).2)), some (.own (acc ++ (runL rows ls i st).1.map dPr)), o12', o13', o14', none, none]), S)
  | [], i, st, acc, o12, o13, o14, _, _, _, _ => ⟨o12, o13, o14, by simp [enumL, sForGo, runL]⟩
  | l :: ls, i, st, acc, o12, o13, o14, hi, hz, hl, hs => by
    have h1 := hl l List.mem_cons_self
    have hiL : i < L := by simp at hi; omega
    have e1 : ∀ a b c e f g h j k m n (o1 o2 o3 : Option D), lcGo (lcEl [15] (.nm 15) tT (e2S dIx (eVar 15) (eVar 12)) [a, b, c, e, f, g, h, j, k, m, n, o1, some (.int (i : Nat)), o2, o3, none, none]) (rows.map dRow) S = some (rows.map fun r => dPr (r.getD i ([], [])), S) := fun a b c e f g h j k m n o1 o2 o3 =>
      lcGo_map _ _ _ fun r hrm => (by
        rw [lcEl_tT]
        have hlen := (hrow r hrm).1
        obtain ⟨y, g1, g2⟩ : ∃ y, r[i]? = some y ∧ r.getD i ([], []) = y := ⟨r[i]'(by omega), List.getElem?_eq_getElem _, by rw [List.getD_eq_getElem?_getD, List.getElem?_eq_getElem (by omega)]; rfl⟩
        rw [g2]
        simp [atI_nat, g1])
    have ek : (rows.map fun r => dPr (r.getD i ([], []))) = (rows.map (·.getD i ([], []))).map dPr := by rw [List.map_map]; rfl
    rw [ek] at e1
    have e2 := m_layer_done_eq (S := S) (kept := rows.map (·.getD i ([], []))) hd h1 hs (by simpa using hr) (fun p hp => by
      obtain ⟨r, hrm, rfl⟩ := List.mem_map.mp hp
      have hlen := (hrow r hrm).1
      rw [List.getD_eq_getElem?_getD, List.getElem?_eq_getElem (by omega)]
      exact (hrow r hrm).2 _ (List.getElem_mem _))
    have hz1 : acc.length < sizeLine := Nat.lt_of_lt_of_le (by simp at hz; omega) (line_small (n := 1001) (by decide))
    obtain ⟨a, b, c, ih⟩ := net_loop (S := S) hd hr hrow v0 v2 v3 v4 v5 v6 v7 v8 v9 ls (i + 1) (after l st (rows.map (·.getD i ([], [])) ++ [own l st])) (acc ++ [dPr (own l st)]) (some (.val (.int (i : Nat)))) (some (.val (dLay l))) (some (.val (dPr (own l st)))) (by simp at hi; omega) (by simp at hz ⊢; omega) (fun x hx => hl x (List.mem_cons_of_mem _ hx)) (after_ok h1 hs)
    refine ⟨a, b, c, ?_⟩
    rw [List.map_cons, enumL]
    unfold sForGo
    rw [show runL rows (l :: ls) i st = ((own l st :: (runL rows ls (i + 1) (after l st (rows.map (·.getD i ([], [])) ++ [own l st]))).1), (runL rows ls (i + 1) (after l st (rows.map (·.getD i ([], [])) ++ [own l st]))).2) from rfl]
    generalize hrl : runL rows ls (i + 1) (after l st (rows.map (·.getD i ([], [])) ++ [own l st])) = rl at ih
    generalize rows.map (·.getD i ([], [])) = kp at ih e1 e2
    simp [netBody, vis_cons, e1, e2, hz1]
    simpa [netBody] using ih
end Wk
end
section
set_option Elab.async false
set_option linter.all false
set_option maxRecDepth 100000
set_option maxHeartbeats 800000
/-! P3: what is a net, a window, a vocabulary. Own work. -/
namespace Wk
open PySem J
/-! ### equality of plain data -/
@[simp] theorem toPyA_ints : ∀ l : List Int, toPyA (l.map D.int) = some (l.map PyData.int)
  | [] => by simp [toPyA]
  | x :: l => by simp [toPyA, toPy, toPyA_ints l]
theorem lay_ints : ∀ l : List Int, PyData.canLayAll0 (l.map PyData.int) = true
  | [] => by simp [PyData.canLayAll0]
  | x :: l => by simp [PyData.canLayAll0, PyData.canLay0, lay_ints l]
theorem eqv_ints : ∀ a b : List Int, PyData.eqvAll (a.map PyData.int) (b.map PyData.int) = decide (a = b)
  | [], [] => by simp [PyData.eqvAll]
  | [], _ :: _ => by simp [PyData.eqvAll]
  | _ :: _, [] => by simp [PyData.eqvAll]
  | x :: a, y :: b => by
    simp only [List.map_cons, PyData.eqvAll, PyData.eqv, eqv_ints a b, List.cons.injEq]
    by_cases h : x = y <;> simp [h]
/-- plain data, of at most n levels -/
def PlD (n : Nat) (d : D) : Prop := ∃ p, toPy d = some p ∧ p.canLay0 = true ∧ p.depth ≤ n
theorem PlD.int (i : Int) : PlD 1 (.int i) := ⟨.int i, by simp [toPy], by simp [PyData.canLay0], by simp [PyData.depth]⟩
theorem PlD.str {x : Str} (h : PyData.strOk x = true) : PlD 1 (.str x) := ⟨.str x, by simp [toPy], by simpa [PyData.canLay0] using h, by simp [PyData.depth]⟩
theorem PlD.mono {n m : Nat} {d : D} (h : PlD n d) (l : n ≤ m) : PlD m d := by
  obtain ⟨p, a, b, c⟩ := h; exact ⟨p, a, b, Nat.le_trans c l⟩
theorem PlD.all {n : Nat} : ∀ {xs : List D}, (∀ x ∈ xs, PlD n x) → ∃ ps, toPyA xs = some ps ∧ PyData.canLayAll0 ps = true ∧ PyData.depthAll ps ≤ n
  | [], _ => ⟨[], by simp [toPyA], by simp [PyData.canLayAll0], by simp [PyData.depthAll]⟩
  | x :: xs, h => by
    obtain ⟨p, a, b, c⟩ := h x List.mem_cons_self
    obtain ⟨ps, a', b', c'⟩ := PlD.all fun y hy => h y (List.mem_cons_of_mem _ hy)
    exact ⟨p :: ps, by simp [toPyA, a, a'], by simp [PyData.canLayAll0, b, b'], by simp only [PyData.depthAll]; omega⟩
theorem PlD.tup {n : Nat} {xs : List D} (h : ∀ x ∈ xs, PlD n x) : PlD (n + 1) (.tup xs) := by
  obtain ⟨ps, a, b, c⟩ := PlD.all h
  exact ⟨.tuple ps, by simp [toPy, a], by simpa [PyData.canLay0] using b, by simp only [PyData.depth]; omega⟩
theorem PlD.ints (l : List Int) : PlD 2 (dI l) := .tup fun x hx => by
  obtain ⟨i, _, rfl⟩ := List.mem_map.mp hx; exact .int i
theorem PlD.ints2 (l : List (List Int)) : PlD 3 (dII l) := .tup fun x hx => by
  obtain ⟨i, _, rfl⟩ := List.mem_map.mp hx; exact .ints i
theorem toPyS_tup (S : Sto) (xs : List D) : toPyS S (.tup xs) = toPy (.tup xs) := rfl
theorem shaped_of {p : PyData} (h : p.canLay0 = true) (d : p.depth ≤ 64) : SeqAt.shaped p = true := by simp [SeqAt.shaped, h, d]
theorem eq_nil {S : Sto} {x : D} {xs : List D} (h : PlD 60 (.tup (x :: xs))) : dEq S (.tup (x :: xs)) (.tup []) = some (.bl false) := by
  obtain ⟨p, a, b, c⟩ := h
  have ha : ∃ q qs, p = .tuple (q :: qs) := by
    simp only [toPy, toPyA, Option.map_eq_some_iff] at a
    obtain ⟨ps, h1, rfl⟩ := a
    obtain ⟨q, _, h2⟩ := bnd h1
    simp only [Option.map_eq_some_iff] at h2
    obtain ⟨qs, _, rfl⟩ := h2
    exact ⟨q, qs, rfl⟩
  obtain ⟨q, qs, rfl⟩ := ha
  have h2 := shaped_of b (by omega)
  have e0 : toPyS S (.tup []) = some (.tuple []) := by simp [toPyS, toPy, toPyA]
  have s0 : SeqAt.shaped (.tuple []) = true := by decide +kernel
  simp only [dEq, dEqB, eqG, toPyS_tup S (x :: xs), a, e0, h2, s0, Bool.and_self, if_true, PyData.eqv, PyData.eqvAll, Option.map_some]
theorem ne_nil {S : Sto} {x : D} {xs : List D} (h : PlD 60 (.tup (x :: xs))) : dNe S (.tup (x :: xs)) (.tup []) = some (.bl true) := by
  have := eq_nil (S := S) h
  simp only [dEq, Option.map_eq_some_iff] at this
  obtain ⟨b, h1, h2⟩ := this
  cases h2
  simp [dNe, h1]
theorem eq_ints (S : Sto) (a b : List Int) : dEq S (dI a) (dI b) = some (.bl (decide (a = b))) := by
  have h1 : ∀ l : List Int, toPyS S (dI l) = some (.tuple (l.map .int)) := fun l => by
    show toPy (dI l) = _
    simp [toPy]
  have h2 : ∀ l : List Int, SeqAt.shaped (.tuple (l.map .int)) = true := fun l => by
    obtain ⟨p, x, y, z⟩ := PlD.ints l
    have : p = .tuple (l.map .int) := by simpa [toPy] using x.symm
    subst this
    exact shaped_of y (by omega)
  show ((eqG S (dI a) (dI b)).map D.bl) = _
  simp only [eqG, h1, h2, Bool.and_self, if_true, PyData.eqv, eqv_ints, Option.map_some]
/-! ### checks -/
theorem m_is_integer_int (i : Int) (S : Sto) : m_is_integer [.int i] S = some (.bl true, S) := by
  simp [m_is_integer, runDef, b_is_integer, isiB, isiT, dTy]
theorem m_is_from_int {i j : Int} (S : Sto) (h : j ≤ i) : m_is_from [.int i, .int j] S = some (.bl true, S) := by
  simp [m_is_from, runDef, b_is_from, m_is_integer_int, h]
theorem all_true {α : Type} (xs : List α) : fAll [.lst (xs.map fun _ => D.bl true)] = some (.bl true) := by
  rw [fAll_lst, blsD_comp (fun _ => true)]
  simp
theorem m_is_vector_eq {l : List Int} {d : Nat} {S : Sto} (h : l.length = d) : m_is_vector [dI l, .int (d : Nat)] S = some (.bl true, S) := by
  have e : lcGo (lcEl [2] (.nm 2) tT (eF m_is_integer (aCons (eVar 2) aNil)) [some (dI l), some (.int (d : Nat)), none]) (l.map D.int) S = some (l.map fun _ => D.bl true, S) :=
    lcGo_map _ _ _ fun x hx => lcEl_one rfl (by simp [m_is_integer_int])
  simp [m_is_vector, runDef, b_is_vector, isiB, isiT, dTy, h, e, all_true, -fAll_lst]
theorem m_are_vectors_eq {M : List (List Int)} {d : Nat} {S : Sto} (h : ∀ r ∈ M, r.length = d) : m_are_vectors [dII M, .int (d : Nat)] S = some (.bl true, S) := by
  have e : lcGo (lcEl [2] (.nm 2) tT (eF m_is_vector (aCons (eVar 2) (aCons (eVar 1) aNil))) [some (dII M), some (.int (d : Nat)), none]) (M.map dI) S = some (M.map fun _ => D.bl true, S) :=
    lcGo_map _ _ _ fun x hx => lcEl_one rfl (by simp [m_is_vector_eq (h x hx)])
  simp [m_are_vectors, runDef, b_are_vectors, isiB, isiT, dTy, e, all_true, -fAll_lst]
theorem Mn.lens {n : Int} {d : Nat} {M : List (List Int)} (h : Mn n d M) : ∀ r ∈ M, r.length = d := fun r hr => (h.2 r hr).1
theorem m_is_layer_eq {l : Lay} {d : Nat} {S : Sto} (h : LayOk d l) : m_is_layer [dLay l, .int (d : Nat)] S = some (.bl true, S) := by
  simp [m_is_layer, runDef, b_is_layer, isiB, isiT, dTy, lcGo, lcEl_tT, m_are_vectors_eq h.q.lens, m_are_vectors_eq h.k.lens, m_are_vectors_eq h.v.lens, m_are_vectors_eq h.m.lens, h.q.1, h.k.1, h.v.1, h.m.1, blsD, oc]
theorem m_is_net_eq {N : Net} {S : Sto} (h : NetOk N) : m_is_net [dNet N] S = some (.bl true, S) := by
  have h2 : (2 : Int) ≤ (N.many : Nat) := by have := h.many; omega
  have h1 : (1 : Int) ≤ (N.d : Nat) := by have := h.d; omega
  have el : lcGo (lcEl [4] (.nm 4) tT (eF m_is_layer (aCons (eVar 4) (aCons (eVar 2) aNil))) [some (dNet N), some (.int (N.many : Nat)), some (.int (N.d : Nat)), none, none]) (N.ls.map dLay) S = some (N.ls.map fun _ => D.bl true, S) :=
    lcGo_map _ _ _ fun x hx => lcEl_one rfl (by simp [m_is_layer_eq (h.ls x hx)])
  have en : dEq S (dII N.pl) (.tup []) = some (.bl false) := by
    have := h.pl0
    have hp := PlD.ints2 N.pl
    cases hh : N.pl with
    | nil => rw [hh] at this; simp at this
    | cons r rs => rw [hh] at hp; exact eq_nil (hp.mono (by omega))
  have v3 := m_are_vectors_eq (S := S) fun r hr => (h.emr r hr).1
  have v4 := m_are_vectors_eq (S := S) fun r hr => (h.plr r hr).1
  have v6 := m_are_vectors_eq (S := S) fun r hr => (h.our r hr).1
  have ha3 : fAll [.lst [.bl true, .bl true, .bl true]] = some (.bl true) := rfl
  simp [m_is_net, runDef, b_is_net, isiB, isiT, dTy, m_is_from_int S h2, m_is_from_int S h1, lcGo, lcEl_tT, v3, v4, v6, oc, ha3, en, h.eml, h.oul, el, all_true, -fAll_lst]
theorem ok_net : PyData.strOk "net" = true := by decide +kernel
theorem ok_window : PyData.strOk "window" = true := by decide +kernel
theorem PlD.lay (l : Lay) : PlD 4 (dLay l) := .tup fun x hx => by
  simp only [List.mem_cons, List.not_mem_nil, or_false] at hx
  rcases hx with rfl | rfl | rfl | rfl <;> exact .ints2 _
theorem PlD.net (N : Net) : PlD 6 (dNet N) := .tup fun x hx => by
  simp only [List.mem_cons, List.not_mem_nil, or_false] at hx
  rcases hx with rfl | rfl | rfl | rfl | rfl | rfl | rfl
  · exact (PlD.str ok_net).mono (by omega)
  · exact (PlD.int _).mono (by omega)
  · exact (PlD.int _).mono (by omega)
  · exact (PlD.ints2 _).mono (by omega)
  · exact (PlD.ints2 _).mono (by omega)
  · exact PlD.tup fun x hx => by
      obtain ⟨l, _, rfl⟩ := List.mem_map.mp hx; exact .lay l
  · exact (PlD.ints2 _).mono (by omega)
theorem m_is_model_value_net {N : Net} {S : Sto} (h : NetOk N) : m_is_model_value [dNet N] S = some (.bl true, S) := by
  have e1 : dEq S (dNet N) (.tup []) = some (.bl false) := eq_nil ((PlD.net N).mono (by omega))
  have e2 := m_is_net_eq (S := S) h
  have e3 : ¬ (("net" : Str) = "window") := by decide +kernel
  simp [m_is_model_value, runDef, b_is_model_value, isiB, isiT, dTy, e1, e2, e3]
/-- tokens below n -/
def TokOk (n : Nat) (ts : List Int) : Prop := ∀ t ∈ ts, 0 ≤ t ∧ t < (n : Nat)
theorem m_are_tokens_below_eq {ts : List Int} {n : Nat} {S : Sto} (h : TokOk n ts) : m_are_tokens_below [dI ts, .int (n : Nat)] S = some (.bl true, S) := by
  have e : lcGo (lcEl [2] (.nm 2) tT (eAnd (eF m_is_from (aCons (eVar 2) (aCons (eC (.int 0)) aNil))) (e2 dLt (eVar 2) (eVar 1))) [some (dI ts), some (.int (n : Nat)), none]) (ts.map D.int) S = some (ts.map fun _ => D.bl true, S) :=
    lcGo_map _ _ _ fun x hx => lcEl_one rfl (by
      have := h x hx
      simp [m_is_from_int S this.1, this.2])
  simp [m_are_tokens_below, runDef, b_are_tokens_below, isiB, isiT, dTy, e, all_true, -fAll_lst]
theorem m_are_model_tokens_eq {d : D} {xs : List D} {nm : D} {ts : List Int} {n : Nat} {S : Sto} (hd : d = .tup (nm :: .int (n : Nat) :: xs)) (h : TokOk n ts) (h0 : ts ≠ []) : m_are_model_tokens [d, dI ts] S = some (.bl true, S) := by
  subst hd
  have e : dNe S (dI ts) (.tup []) = some (.bl true) := by
    cases ts with
    | nil => exact absurd rfl h0
    | cons t ts => exact ne_nil ((PlD.ints (t :: ts)).mono (by omega))
  simp [m_are_model_tokens, runDef, b_are_model_tokens, m_are_tokens_below_eq h, e]
theorem m_need_tokens_eq {d : D} {xs : List D} {nm : D} {ts : List Int} {n : Nat} {S : Sto} (hd : d = .tup (nm :: .int (n : Nat) :: xs)) (hm : m_is_model_value [d] S = some (.bl true, S)) (h : TokOk n ts) (h0 : ts ≠ []) : m_need_tokens [d, dI ts] S = some (.non, S) := by
  have e := m_are_model_tokens_eq (S := S) hd h h0
  simp [m_need_tokens, runDef, b_need_tokens, m_need_model, b_need_model, hm, e]
end Wk
end
section
set_option Elab.async false
set_option linter.all false
set_option maxRecDepth 100000
set_option maxHeartbeats 800000
/-! P4: windows. Own work. -/
namespace Wk
open PySem J
theorem cut_drop {α : Type} (xs : List α) (k : Nat) : cutL xs (some (k : Int)) none = xs.drop k := by
  simp only [cutL, HT.sIx_nat, HT.sIx_none]
  rw [List.take_of_length_le (by simp)]
  rcases Nat.le_total k xs.length with h | h
  · rw [Nat.min_eq_left h]
  · rw [Nat.min_eq_right h, List.drop_of_length_le (Nat.le_refl _), List.drop_of_length_le h]
theorem cut_take {α : Type} (xs : List α) (k : Nat) : cutL xs none (some (k : Int)) = xs.take k := by
  simp only [cutL, HT.sIx_nat, HT.sIx_none, List.drop_zero, Nat.sub_zero]
  rcases Nat.le_total k xs.length with h | h
  · rw [Nat.min_eq_left h]
  · rw [Nat.min_eq_right h, List.take_of_length_le (Nat.le_refl _), List.take_of_length_le h]
theorem cut_last {α : Type} (xs : List α) : cutL xs none (some (-1)) = xs.dropLast := by
  have e : HT.sIx xs.length xs.length (some (-1)) = xs.length - 1 := by
    show (if (-1 : Int) < 0 then ((-1 : Int) + (xs.length : Int)).toNat else min (-1 : Int).toNat xs.length) = _
    rw [if_pos (by decide)]; omega
  simp only [cutL, HT.sIx_none, e, List.drop_zero, Nat.sub_zero]
  rw [List.dropLast_eq_take]
@[simp] theorem dSlice_lst (xs : List D) (a b : Option Int) : dSlice (.lst xs) a b = some (.lst (cutL xs a b)) := rfl
@[simp] theorem dSlice_tup (xs : List D) (a b : Option Int) : dSlice (.tup xs) a b = some (.tup (cutL xs a b)) := rfl
theorem max0 (n k : Nat) : mx 0 ((n : Int) - (k : Int)) = ((n - k : Nat) : Int) := by
  unfold mx; split <;> omega
structure Win where
  many : Nat
  k : Nat
  es : List Pr
  df : List Int
abbrev dWin (W : Win) : D := .tup [.str "window", .int (W.many : Nat), .int (W.k : Nat), .tup (W.es.map dPr), dI W.df]
def WtOk (n : Nat) (l : List Int) : Prop := l.length = n ∧ (∀ x ∈ l, 0 ≤ x ∧ x ≤ 100) ∧ 1 ≤ l.sum
/-- keys grow -/
def Grow : List Pr → Prop
  | [] => True
  | [_] => True
  | a :: b :: r => HT.lexLt a.1 b.1 = true ∧ Grow (b :: r)
structure WinOk (W : Win) : Prop where
  many : 2 ≤ W.many ∧ W.many ≤ 6
  k : W.k ≤ 2
  keys : ∀ e ∈ W.es, TokOk W.many e.1 ∧ e.1.length ≤ W.k
  ws : ∀ e ∈ W.es, WtOk W.many e.2
  df : WtOk W.many W.df
  grow : Grow W.es
  few : W.es.length ≤ 4
theorem m_are_weights_eq {n : Nat} {l : List Int} {S : Sto} (h : WtOk n l) : m_are_weights [dI l, .int (n : Nat)] S = some (.bl true, S) := by
  have e : lcGo (lcEl [2] (.nm 2) tT (eF m_is_from (aCons (eVar 2) (aCons (eC (.int 0)) aNil))) [some (dI l), some (.int (n : Nat)), none]) (l.map D.int) S = some (l.map fun _ => D.bl true, S) :=
    lcGo_map _ _ _ fun x hx => lcEl_one rfl (by
      have := (h.2.1 x hx).1
      simp [m_is_from_int S this])
  simp [m_are_weights, runDef, b_are_weights, isiB, isiT, dTy, h.1, e, all_true, h.2.2, -fAll_lst]
theorem m_is_entry_eq {n k : Nat} {p : Pr} {S : Sto} (h1 : TokOk n p.1) (h2 : p.1.length ≤ k) (h3 : WtOk n p.2) : m_is_entry [dPr p, .int (n : Nat), .int (k : Nat)] S = some (.bl true, S) := by
  have a := m_are_tokens_below_eq (S := S) h1
  have b := m_are_weights_eq (S := S) h3
  simp [m_is_entry, runDef, b_is_entry, isiB, isiT, dTy, a, b, h2]
theorem dLt_ints (a b : List Int) : dLt (dI a) (dI b) = some (.bl (HT.lexLt a b)) := by simp [dLt]
theorem zip_grow : ∀ {es : List Pr}, Grow es → ∀ p ∈ es.zip (es.drop 1), HT.lexLt p.1.1 p.2.1 = true
  | [], _, p, hp => by simp at hp
  | [a], _, p, hp => by simp at hp
  | a :: b :: r, h, p, hp => by
    rw [List.drop_one, List.tail_cons, List.zip_cons_cons] at hp
    rcases List.mem_cons.mp hp with q | q
    · rw [q]; exact h.1
    · exact zip_grow (es := b :: r) h.2 p (by simpa using q)
theorem m_is_window_eq {W : Win} {S : Sto} (h : WinOk W) : m_is_window [dWin W] S = some (.bl true, S) := by
  have h2 : (2 : Int) ≤ (W.many : Nat) := by have := h.many; omega
  have h1 : (0 : Int) ≤ (W.k : Nat) := by omega
  have ew := m_are_weights_eq (S := S) h.df
  have ee : lcGo (lcEl [1] (.nm 1) tT (eF m_is_entry (aCons (eVar 1) (aCons (e2S dIx (eVar 0) (eC (.int 1))) (aCons (e2S dIx (eVar 0) (eC (.int 2))) aNil)))) [some (dWin W), none, none, none]) (W.es.map dPr) S = some (W.es.map fun _ => D.bl true, S) :=
    lcGo_map _ _ _ fun x hx => lcEl_one rfl (by
      simp [m_is_entry_eq (S := S) (h.keys x hx).1 (h.keys x hx).2 (h.ws x hx)])
  have eg : lcGo (lcEl [2, 3] (.tp [.nm 2, .nm 3]) tT (e2 dLt (e2S dIx (eVar 2) (eC (.int 0))) (e2S dIx (eVar 3) (eC (.int 0)))) [some (dWin W), none, none, none]) ((W.es.zip (W.es.drop 1)).map fun p => .tup [dPr p.1, dPr p.2]) S = some ((W.es.zip (W.es.drop 1)).map fun _ => D.bl true, S) :=
    lcGo_map _ _ _ fun x hx => lcEl_one rfl (by
      simp [dLt_ints, zip_grow h.grow x hx])
  have ec : cutL (W.es.map dPr) (some 1) none = (W.es.drop 1).map dPr := by
    rw [show (1 : Int) = ((1 : Nat) : Int) from rfl, cut_drop, List.map_drop]
  simp [m_is_window, runDef, b_is_window, isiB, isiT, dTy, m_is_from_int S h2, m_is_from_int S h1, ew, ee, ec, zipL_map, eg, all_true, -fAll_lst, -List.drop_one, -List.map_drop]
theorem PlD.pr (p : Pr) : PlD 4 (dPr p) := .tup fun x hx => by
  simp only [List.mem_cons, List.not_mem_nil, or_false] at hx
  rcases hx with rfl | rfl <;> exact (PlD.ints _).mono (by omega)
theorem PlD.win (W : Win) : PlD 6 (dWin W) := .tup fun x hx => by
  simp only [List.mem_cons, List.not_mem_nil, or_false] at hx
  rcases hx with rfl | rfl | rfl | rfl | rfl
  · exact (PlD.str ok_window).mono (by omega)
  · exact (PlD.int _).mono (by omega)
  · exact (PlD.int _).mono (by omega)
  · exact PlD.tup fun x hx => by
      obtain ⟨l, _, rfl⟩ := List.mem_map.mp hx; exact .pr l
  · exact (PlD.ints _).mono (by omega)
theorem m_is_model_value_win {W : Win} {S : Sto} (h : WinOk W) : m_is_model_value [dWin W] S = some (.bl true, S) := by
  have e1 : dEq S (dWin W) (.tup []) = some (.bl false) := eq_nil ((PlD.win W).mono (by omega))
  have e2 := m_is_window_eq (S := S) h
  simp [m_is_model_value, runDef, b_is_model_value, isiB, isiT, dTy, e1, e2]
/-- the weights behind the tokens -/
def winW (W : Win) (ts : List Int) : List Int := ((W.es.find? fun e => decide (e.1 = ts.drop (ts.length - W.k))).map (·.2)).getD W.df
theorem win_loop {S : Sto} {W : Win} {last : List Int} (v0 v1 v2 : D) : ∀ (es : List Pr) (o4 : Option LV),
    ∃ o4', sForGo (.nm 4) (sIf (tB (e2S dEq (e2S dIx (eVar 4) (eC (.int 0))) (eVar 3))) (sRet (e2S dIx (eVar 4) (eC (.int 1)))) (sNop)) (es.map dPr) [some (.val v0), some (.val v1), some (.val v2), some (.val (dI last)), o4] S =
      some (((match es.find? fun e => decide (e.1 = last) with
        | some e => .ret (dI e.2)
        | none => .nx), [some (.val v0), some (.val v1), some (.val v2), some (.val (dI last)), o4']), S)
  | [], o4 => ⟨o4, by simp [sForGo]⟩
  | e :: es, o4 => by
    by_cases h : e.1 = last
    · refine ⟨some (.val (dPr e)), ?_⟩
      simp [sForGo, eq_ints, h]
    · obtain ⟨o, ih⟩ := win_loop (S := S) (W := W) (last := last) v0 v1 v2 es (some (.val (dPr e)))
      refine ⟨o, ?_⟩
      simp [sForGo, eq_ints, h]
      simpa using ih
theorem m_window_weights_eq {W : Win} {ts : List Int} {S : Sto} : m_window_weights [dWin W, dI ts] S = some (dI (winW W ts), S) := by
  have ec : cutL (ts.map D.int) (some (mx 0 ((ts.length : Nat) - (W.k : Nat)))) none = (ts.drop (ts.length - W.k)).map D.int := by
    rw [max0, cut_drop, List.map_drop]
  obtain ⟨o, hl⟩ := win_loop (S := S) (W := W) (last := ts.drop (ts.length - W.k)) (dWin W) (dI ts) (.int (W.k : Nat)) W.es none
  unfold winW
  cases hf : W.es.find? fun e => decide (e.1 = ts.drop (ts.length - W.k)) with
  | none =>
    rw [hf] at hl
    simp [-List.map_drop] at hl
    simp [m_window_weights, runDef, b_window_weights, ec, hl, -List.map_drop]
  | some e =>
    rw [hf] at hl
    simp [-List.map_drop] at hl
    simp [m_window_weights, runDef, b_window_weights, ec, hl, -List.map_drop]
theorem m_weights_win {W : Win} {ts : List Int} {S : Sto} (h : WinOk W) (h1 : TokOk W.many ts) (h0 : ts ≠ []) : m_model_weights [dWin W, dI ts] S = some (dI (winW W ts), S) := by
  have e1 := m_need_tokens_eq (S := S) (d := dWin W) rfl (m_is_model_value_win h) h1 h0
  have e2 := m_window_weights_eq (S := S) (W := W) (ts := ts)
  simp [m_model_weights, runDef, b_model_weights, e1, m_weights_raw, b_weights_raw, e2]
end Wk
end
section
set_option Elab.async false
set_option linter.all false
set_option maxRecDepth 100000
set_option maxHeartbeats 800000
/-! P5: a net, token by token. Own work. -/
namespace Wk
open PySem J
def st0 (N : Net) (p : Nat) (t : Int) : List Int := plus (N.em.getD t.toNat []) (N.pl.getD (p % N.pl.length) [])
def stepN (N : Net) (rows : List (List Pr)) (t : Int) : List Pr × List Int := runL rows N.ls 0 (st0 N rows.length t)
def outN (N : Net) (st : List Int) : List Int := shares (N.ou.map fun o => dot o st)
theorem getD_at {α : Type} {xs : List α} {i : Nat} (d : α) (h : i < xs.length) : xs[i]? = some (xs.getD i d) := by
  rw [List.getD_eq_getElem?_getD, List.getElem?_eq_getElem h]; rfl
theorem getD_mem {α : Type} {xs : List α} {i : Nat} (d : α) (h : i < xs.length) : xs.getD i d ∈ xs := by
  rw [List.getD_eq_getElem?_getD, List.getElem?_eq_getElem h]; exact List.getElem_mem _
theorem st0_ok {N : Net} {p : Nat} {t : Int} (h : NetOk N) (ht : 0 ≤ t ∧ t < (N.many : Nat)) : Vn 20 N.d (st0 N p t) := by
  have h1 : t.toNat < N.em.length := by rw [h.eml]; omega
  have h2 : p % N.pl.length < N.pl.length := Nat.mod_lt _ (by have := h.pl0; omega)
  exact plus_ok (h.emr _ (getD_mem [] h1)).1 (h.plr _ (getD_mem [] h2)).1
def RowsOk (N : Net) (rows : List (List Pr)) : Prop := rows.length ≤ 900 ∧ ∀ r ∈ rows, r.length = N.ls.length ∧ ∀ p ∈ r, p.2.length = N.d
theorem stepN_ok {N : Net} {rows : List (List Pr)} {t : Int} (h : NetOk N) (ht : 0 ≤ t ∧ t < (N.many : Nat)) : (stepN N rows t).1.length = N.ls.length ∧ Vn 20 N.d (stepN N rows t).2 ∧ ∀ p ∈ (stepN N rows t).1, p.2.length = N.d :=
  runL_ok h.ls (st0_ok h ht)
theorem m_net_step_eq {N : Net} {rows : List (List Pr)} {t : Int} {S : Sto} (h : NetOk N) (hr : RowsOk N rows) (ht : 0 ≤ t ∧ t < (N.many : Nat)) :
    m_net_step [dNet N, .lst (rows.map dRow), .int t] S = some (.tup [dRow (stepN N rows t).1, dI (outN N (stepN N rows t).2)], S) := by
  obtain ⟨n, rfl⟩ := Int.eq_ofNat_of_zero_le ht.1
  have h1 : n < N.em.length := by rw [h.eml]; omega
  have hp0 : 0 < N.pl.length := by have := h.pl0; omega
  have h2 : rows.length % N.pl.length < N.pl.length := Nat.mod_lt _ hp0
  have g1 : L2.atI (N.em.map dI) (n : Int) = some (dI (N.em.getD n [])) := by rw [atI_nat, List.getElem?_map, getD_at [] h1]; rfl
  have g2 : L2.atI (N.pl.map dI) ((rows.length : Int) % (N.pl.length : Int)) = some (dI (N.pl.getD (rows.length % N.pl.length) [])) := by
    rw [← Int.natCast_emod, atI_nat, List.getElem?_map, getD_at [] h2]; rfl
  have g3 : dMod (.int (rows.length : Nat)) (.int (N.pl.length : Nat)) = some (.int ((rows.length : Int) % (N.pl.length : Int))) := by
    have hp1 : N.pl ≠ [] := fun z => by rw [z] at hp0; exact absurd hp0 (by decide)
    have : (0 : Int) < (N.pl.length : Nat) := by omega
    simp only [dMod, this, if_true]
  have s0 := st0_ok (p := rows.length) h ht
  have t1 : m_plus [dI (N.em.getD n []), dI (N.pl.getD (rows.length % N.pl.length) [])] S = some (dI (st0 N rows.length (n : Int)), S) := m_plus_eq rfl rfl
  obtain ⟨a, b, c, hl⟩ := net_loop (S := S) (d := N.d) (L := N.ls.length) (rows := rows) (by have := h.d; omega) (by have := hr.1; omega) hr.2 (dNet N) (.int (n : Nat)) (.str "net") (.int (N.many : Nat)) (.int (N.d : Nat)) (dII N.em) (dII N.pl) (.tup (N.ls.map dLay)) (dII N.ou) N.ls 0 (st0 N rows.length (n : Int)) [] none none none (by omega) (by have := h.lsl; simp; omega) h.ls s0
  obtain ⟨k1, k2, k3⟩ := stepN_ok (rows := rows) h ht
  rw [show runL rows N.ls 0 (st0 N rows.length (n : Int)) = stepN N rows (n : Int) from rfl] at hl
  generalize stepN N rows (n : Int) = sn at hl k1 k2 k3
  have eo : ∀ a b c e f g h j k m x y z w, lcGo (lcEl [16] (.nm 16) tT (eF m_scalar (aCons (eVar 16) (aCons (eVar 10) aNil))) [a, b, c, e, f, g, h, j, k, m, some (dI sn.2), x, y, z, w, none, none]) (N.ou.map dI) S = some (N.ou.map fun o => .int (dot o sn.2), S) := fun a b c e f g h' j k m x y z w =>
    lcGo_map _ _ _ fun x hx => lcEl_one rfl (by
      have e : m_scalar [dI x, dI sn.2] S = some (.int (dot x sn.2), S) := m_scalar_eq rfl rfl ((h.our x hx).sm (by decide))
      simp [e])
  have t2 : m_shares_of [.lst (N.ou.map fun o => D.int (dot o sn.2))] S = some (.lst ((outN N sn.2).map D.int), S) := m_shares_eq (l := N.ou.map fun o => dot o sn.2) (by rw [List.map_map]; rfl) (by
    intro z
    have := congrArg List.length z
    rw [List.length_map, h.oul] at this
    have := h.many
    simp at *; omega)
  generalize N.em.getD n [] = ev at g1 t1
  generalize N.pl.getD (rows.length % N.pl.length) [] = pv at g2 t1
  have hl2 : sForGo (.tp [.nm 12, .nm 13]) netBody (enumL 0 (N.ls.map dLay)) _ S = _ := hl
  unfold netBody at hl2
  simp at hl2
  simp (maxSteps := 4000000) [m_net_step, runDef, b_net_step, g1, g2, g3, t1, hl2, fz_cons, eo, t2]
@[simp] theorem pureA_all : ∀ xs : List D, pureA xs = xs.all pureD
  | [] => by simp [pureA]
  | x :: xs => by simp [pureA, pureA_all xs]
theorem pure_ints (l : List Int) : pureD (dI l) = true := by simp [pureD]
theorem pure_row (r : List Pr) : flatD (dRow r) = true := by simp [pureD]
theorem m_step_raw_eq {N : Net} {rows : List (List Pr)} {t : Int} {S : Sto} (h : NetOk N) (hr : RowsOk N rows) (ht : 0 ≤ t ∧ t < (N.many : Nat)) :
    m_step_raw [dNet N, .lst (rows.map dRow), .int t] S = some (.tup [dRow (stepN N rows t).1, dI (outN N (stepN N rows t).2)], S) := by
  have e := m_net_step_eq (S := S) h hr ht
  have e3 : ¬ (("net" : Str) = "window") := by decide +kernel
  simp [m_step_raw, runDef, b_step_raw, e3, e]
/-- all rows behind the tokens -/
def rowsN (N : Net) : List Int → List (List Pr) → List (List Pr)
  | [], rows => rows
  | t :: ts, rows => rowsN N ts (rows ++ [(stepN N rows t).1])
theorem rowsN_ok {N : Net} (h : NetOk N) : ∀ {ts : List Int} {rows : List (List Pr)}, TokOk N.many ts → RowsOk N rows → rows.length + ts.length ≤ 900 → RowsOk N (rowsN N ts rows)
  | [], _, _, hr, _ => hr
  | t :: ts, rows, ht, hr, hz => by
    have k := stepN_ok (rows := rows) h (ht t List.mem_cons_self)
    refine rowsN_ok h (ts := ts) (fun x hx => ht x (List.mem_cons_of_mem _ hx)) ⟨by simp at hz ⊢; omega, fun r hm => ?_⟩ (by simp at hz ⊢; omega)
    rcases List.mem_append.mp hm with q | q
    · exact hr.2 r q
    · rw [List.mem_singleton.mp q]; exact ⟨k.1, k.2.2⟩
theorem rows_loop {N : Net} {S : Sto} (h : NetOk N) (v1 : D) : ∀ (ts : List Int) (rows : List (List Pr)) (o3 : Option LV), TokOk N.many ts → RowsOk N rows → rows.length + ts.length ≤ 900 →
    ∃ o3', sForGo (.nm 3) (sAppF 2 (e2S dIx (eF m_step_raw (aCons (eVar 0) (aCons (eVar 2) (aCons (eVar 3) (aNil))))) (eC (.int 0)))) (ts.map D.int) [some (.val (dNet N)), some (.val v1), some (.own (rows.map dRow)), o3] S =
      some ((.nx, [some (.val (dNet N)), some (.val v1), some (.own ((rowsN N ts rows).map dRow)), o3']), S)
  | [], rows, o3, _, _, _ => ⟨o3, by simp [sForGo, rowsN]⟩
  | t :: ts, rows, o3, ht, hr, hz => by
    have k := stepN_ok (rows := rows) h (ht t List.mem_cons_self)
    have hr2 : RowsOk N (rows ++ [(stepN N rows t).1]) := ⟨by simp at hz ⊢; omega, fun r hm => by
      rcases List.mem_append.mp hm with q | q
      · exact hr.2 r q
      · rw [List.mem_singleton.mp q]; exact ⟨k.1, k.2.2⟩⟩
    obtain ⟨o, ih⟩ := rows_loop (S := S) h v1 ts (rows ++ [(stepN N rows t).1]) (some (.val (.int t))) (fun x hx => ht x (List.mem_cons_of_mem _ hx)) hr2 (by simp at hz ⊢; omega)
    refine ⟨o, ?_⟩
    have e := m_step_raw_eq (S := S) h hr (ht t List.mem_cons_self)
    have hz1 : rows.length < sizeLine := Nat.lt_of_lt_of_le (by simp at hz; omega) (line_small (n := 1001) (by decide))
    have hf : flatD (dRow (stepN N rows t).1) = true := pure_row _
    rw [List.map_cons]
    unfold sForGo
    rw [show rowsN N (t :: ts) rows = rowsN N ts (rows ++ [(stepN N rows t).1]) from rfl]
    generalize rowsN N ts (rows ++ [(stepN N rows t).1]) = rn at ih
    generalize stepN N rows t = sn at ih e hf
    simp [e, hz1, hf]
    simpa using ih
theorem m_all_rows_eq {N : Net} {ts : List Int} {S : Sto} (h : NetOk N) (ht : TokOk N.many ts) (hz : ts.length ≤ 900) : m_all_rows [dNet N, dI ts] S = some (.lst ((rowsN N ts []).map dRow), S) := by
  obtain ⟨o, hl⟩ := rows_loop (S := S) h (dI ts) ts [] none ht ⟨by simp, fun r hr => absurd hr List.not_mem_nil⟩ (by simpa using hz)
  simp at hl
  simp [m_all_rows, runDef, b_all_rows, hl]
theorem atI_m1 {α : Type} (xs : List α) : L2.atI xs (-1) = xs.getLast? := by
  unfold L2.atI L2.ixN
  rw [List.getLast?_eq_getElem?]
  rcases xs with _ | ⟨x, xs⟩
  · simp
  · have e : (-1 + ((xs.length : Int) + 1)).toNat = xs.length := by omega
    have e2 : (1 : Int) ≤ (xs.length : Int) + 1 := by omega
    simp [e, e2]
/-- the weights behind the tokens ts ++ [t] -/
def netW (N : Net) (ts : List Int) (t : Int) : List Int := outN N (stepN N (rowsN N ts []) t).2
theorem m_weights_net {N : Net} {ts : List Int} {t : Int} {S : Sto} (h : NetOk N) (ht : TokOk N.many (ts ++ [t])) (hz : ts.length ≤ 900) : m_model_weights [dNet N, dI (ts ++ [t])] S = some (dI (netW N ts t), S) := by
  have e1 := m_need_tokens_eq (S := S) (d := dNet N) rfl (m_is_model_value_net h) ht (by simp)
  have e3 : ¬ (("net" : Str) = "window") := by decide +kernel
  have h1 : TokOk N.many ts := fun x hx => ht x (List.mem_append_left _ hx)
  have h2 := ht t (List.mem_append_right _ List.mem_cons_self)
  have e4 := m_all_rows_eq (S := S) h h1 hz
  have e5 := m_step_raw_eq (S := S) h (rowsN_ok h (rows := []) h1 ⟨by simp, fun r hr => absurd hr List.not_mem_nil⟩ (by simpa using hz)) h2
  have e6 : cutL ((ts ++ [t]).map D.int) none (some (-1)) = ts.map D.int := by rw [cut_last]; simp
  have e7 : L2.atI ((ts ++ [t]).map D.int) (-1) = some (.int t) := by rw [atI_m1]; simp
  simp only [List.map_append, List.map_cons, List.map_nil] at e1 e6 e7
  have e1' := m_need_tokens_eq (S := S) (d := dNet N) rfl (m_is_model_value_net h) ht (by simp)
  have e8 : m_weights_raw [dNet N, dI (ts ++ [t])] S = some (dI (netW N ts t), S) := by
    simp [m_weights_raw, runDef, b_weights_raw, e3, e4, e5, e6, e7, netW]
  simp [m_model_weights, runDef, b_model_weights, e1', e8, -List.map_append]
end Wk
end
section
set_option Elab.async false
set_option linter.all false
set_option maxRecDepth 100000
set_option maxHeartbeats 800000
/-! P6: the law's own walk through a net, layer by layer. Own work. -/
namespace Wk
open PySem J
theorem m_ldot_eq {da db : D} {a b : List Int} {S : Sto} (h1 : seqD da = some (a.map D.int)) (h2 : seqD db = some (b.map D.int)) (ha : Sm a) : m__law_dot [da, db] S = some (.int (dot a b), S) := by
  have h : lcGo (lcEl [2, 3] (.tp [.nm 2, .nm 3]) tT (e2 dMul (eVar 2) (eVar 3)) [some da, some db, none, none]) ((a.zip b).map fun p => .tup [.int p.1, .int p.2]) S = some ((a.zip b).map fun p => .int (p.1 * p.2), S) :=
    lcGo_map _ _ _ fun p hp => lcEl_one rfl (by
      have h2 : L2.CMul p.1 p.2 := .inl (ha p.1 (List.of_mem_zip hp).1)
      simp [dMul, h2])
  simp [m__law_dot, runDef, b__law_dot, h1, h2, zipL_ints, h, dot]
theorem m_ltimes_eq {dM dv : D} {M : List (List Int)} {v : List Int} {S : Sto} (h1 : itemsD dM = some (M.map dI)) (h2 : seqD dv = some (v.map D.int)) (ha : ∀ r ∈ M, Sm r) : m__law_times [dM, dv] S = some (dI (times M v), S) := by
  have h : lcGo (lcEl [2] (.nm 2) tT (eF m__law_dot (aCons (eVar 2) (aCons (eVar 1) aNil))) [some dM, some dv, none]) (M.map dI) S = some (M.map fun r => .int (dot r v), S) :=
    lcGo_map _ _ _ fun r hr => lcEl_one rfl (by
      have e : m__law_dot [dI r, dv] S = some (.int (dot r v), S) := m_ldot_eq rfl h2 (ha r hr)
      simp [e])
  simp [m__law_times, runDef, b__law_times, h1, h, times]
theorem m_lclip_eq {da db : D} {a b : List Int} {S : Sto} (h1 : seqD da = some (a.map D.int)) (h2 : seqD db = some (b.map D.int)) : m__law_clipped [da, db] S = some (dI (plus a b), S) := by
  have h : lcGo (lcEl [2, 3] (.tp [.nm 2, .nm 3]) tT (eN fMax (aCons (e1 dNeg (eC (.int 20))) (aCons (eN fMin (aCons (eC (.int 20)) (aCons (e2 dAdd (eVar 2) (eVar 3)) (aNil)))) (aNil)))) [some da, some db, none, none]) ((a.zip b).map fun p => .tup [.int p.1, .int p.2]) S = some ((a.zip b).map fun p => .int (cl (p.1 + p.2)), S) :=
    lcGo_map _ _ _ fun p hp => lcEl_one rfl (by simp [cl])
  simp [m__law_clipped, runDef, b__law_clipped, h1, h2, zipL_ints, h, plus]
theorem zip_trunc {α β : Type} : ∀ (s : List α) (a b : List β), a.length = s.length → s.zip (a ++ b) = s.zip a
  | [], _, _, _ => by simp
  | x :: s, [], b, h => by simp at h
  | x :: s, y :: a, b, h => by
    simp only [List.cons_append, List.zip_cons_cons]
    rw [zip_trunc s a b (by simpa using h)]
def laterGo (l : Lay) : List Pr → List (List Int) → List (List Int)
  | _, [] => []
  | pre, st :: r => after l st (pre ++ [own l st]) :: laterGo l (pre ++ [own l st]) r
def later (l : Lay) (sts : List (List Int)) : List (List Int) := laterGo l [] sts
def lookBody : SM := (sSeq (sSet 6 (eF m__law_times (aCons (e2S dIx (eVar 1) (eC (.int 0))) (aCons (eVar 3) (aNil)))))
    (sSeq (sSet 7 (eL (fLc (iSeq (e3 dSlice (eVar 2) (oNone) (oSome (e2 dAdd (eVar 5) (eC (.int 1)))))) [8, 9] (.tp [.nm 8, .nm 9]) (tT) (eF m__law_dot (aCons (eVar 6) (aCons (eVar 8) (aNil)))))))
    (sSeq (sSet 10 (eL (fLc (iSeq (eVar 7)) [11] (.nm 11) (tT) (e2 dShl (eC (.int 1)) (eN fMax (aCons (eC (.int 0)) (aCons (e2 dSub (eC (.int 6)) (e2 dSub (eN fMax (aCons (eVar 7) (aNil))) (eVar 11))) (aNil))))))))
    (sSeq (sParVO 12 13 (eN fSum (aCons (eVar 10) (aNil))) (aNil))
    (sSeq (sFor (iRange (aCons (eN fLen (aCons (eVar 3) (aNil))) (aNil))) (.nm 14) (sApp 13 (e2 dDiv (eN fSum (aCons (eL (fLc (iZip (eVar 10) (eVar 2)) [15, 16] (.tp [.nm 15, .nm 16]) (tT) (e2 dMul (eVar 15) (e2S dIx (e2S dIx (eVar 16) (eC (.int 1))) (eVar 14))))) (aNil))) (eVar 12))))
    (sAppF 4 (eF m__law_clipped (aCons (eVar 3) (aCons (eF m__law_times (aCons (e2S dIx (eVar 1) (eC (.int 3))) (aCons (eVar 13) (aNil)))) (aNil))))))))))
theorem look_step {d : Nat} {l : Lay} {st : List Int} {pre post : List Pr} {S : Sto} {sts : List (List Int)} {acc : List D} (o6 o7 o10 o12 o13 o14 : Option LV) (hd : d ≤ 4) (hl : LayOk d l) (hst : Vn 20 d st) (hp2 : ∀ p ∈ pre ++ own l st :: post, p.2.length = d) (hz : acc.length < 1000) (hk : pre.length ≤ 1000) :
    ∃ o6' o7' o10' o12' o13' o14', lookBody [some (.val (.lst (sts.map dI))), some (.val (dLay l)), some (.val (.lst ((pre ++ own l st :: post).map dPr))), some (.val (dI st)), some (.own acc), some (.val (.int (pre.length : Nat))), o6, o7, none, none, o10, none, o12, o13, o14, none, none] S =
      some ((.nx, [some (.val (.lst (sts.map dI))), some (.val (dLay l)), some (.val (.lst ((pre ++ own l st :: post).map dPr))), some (.val (dI st)), some (.own (acc ++ [dI (after l st (pre ++ [own l st]))])), some (.val (.int (pre.length : Nat))), o6', o7', none, none, o10', none, o12', o13', o14', none, none]), S) := by
  generalize hpp : pre ++ own l st :: post = pairs at hp2
  have t3 : m__law_times [dII l.q, dI st] S = some (dI (times l.q st), S) := m_ltimes_eq rfl rfl (hl.q.sm (by decide))
  have bq : Vn (d * (3 * 20)) d (times l.q st) := times_bd (by decide) (by decide) hl.q hst
  have sq : Sm (times l.q st) := bq.sm (by
    have : (d : Int) ≤ 4 := by omega
    omega)
  generalize hp : pre ++ [own l st] = hed
  have hpl : hed.length = pre.length + 1 := by rw [← hp]; simp
  have hph : pairs = hed ++ post := by rw [← hpp, ← hp]; simp
  have ec : cutL (pairs.map dPr) none (some ((pre.length : Nat) + 1)) = hed.map dPr := by
    rw [show ((pre.length : Nat) : Int) + 1 = ((pre.length + 1 : Nat) : Int) by omega, cut_take, hph, List.map_append, List.take_left' (by simp [hpl])]
  have bst : st.length = d := hst.1
  generalize hsc : hed.map (fun p => dot (times l.q st) p.1) = sc
  have hscl : sc.length = hed.length := by rw [← hsc]; simp
  have hsc0 : sc ≠ [] := fun z => by rw [z] at hscl; simp at hscl; omega
  have l1 : ∀ a b c e f g h j k m n o p q, lcGo (lcEl [8, 9] (.tp [.nm 8, .nm 9]) tT (eF m__law_dot (aCons (eVar 6) (aCons (eVar 8) aNil))) [a, b, c, e, f, g, some (dI (times l.q st)), h, none, none, j, k, m, n, o, p, q]) (hed.map dPr) S = some (hed.map fun p => .int (dot (times l.q st) p.1), S) := fun a b c e f g h j k m n o p q =>
    lcGo_map _ _ _ fun p hp => lcEl_one rfl (by
      have e : m__law_dot [dI (times l.q st), dI p.1] S = some (.int (dot (times l.q st) p.1), S) := m_ldot_eq rfl rfl sq
      simp [e])
  have es : (hed.map fun p => D.int (dot (times l.q st) p.1)) = sc.map D.int := by rw [← hsc, List.map_map]; rfl
  rw [es] at l1
  have e9 : fMax [.lst (sc.map D.int)] = some (.int (maxL sc)) := by simp [fMax, hsc0]
  have l4 : ∀ a b c e f g h j k m n o p q t u, lcGo (lcEl [11] (.nm 11) tT (e2 dShl (eC (.int 1)) (eN fMax (aCons (eC (.int 0)) (aCons (e2 dSub (eC (.int 6)) (e2 dSub (eN fMax (aCons (eVar 7) (aNil))) (eVar 11))) (aNil))))) [a, b, c, e, f, g, h, some (.lst (sc.map D.int)), j, k, m, n, o, p, q, t, u]) (sc.map D.int) S = some (sc.map fun x => .int (2 ^ (mx 0 (6 - (maxL sc - x))).toNat), S) := fun a b c e f g h j k m n o p q t u =>
    lcGo_map _ _ _ fun x hx => lcEl_one rfl (by
      have h3 := maxL_le hx
      have h2 : L2.CPow 1 (mx 0 (6 - (maxL sc - x))) := by
        unfold L2.CPow mx
        refine ⟨?_, ?_, by decide⟩ <;> split <;> omega
      simp [dShl, h2, e9])
  have e10 : (sc.map fun x => D.int (2 ^ (mx 0 (6 - (maxL sc - x))).toNat)) = (shares sc).map D.int := by rw [shares, List.map_map]; rfl
  rw [e10] at l4
  generalize hsh : shares sc = sh at l4
  have hpos : ∀ s ∈ sh, 1 ≤ s ∧ s ≤ 64 := by rw [← hsh]; exact shares_pos sc
  have hshl : sh.length = hed.length := by rw [← hsh, ← hscl]; simp [shares]
  have hzt : sh.zip pairs = sh.zip hed := by rw [hph, zip_trunc _ _ _ hshl.symm]
  have hp3 : ∀ p ∈ hed, p.2.length = d := fun p hm => hp2 p (by rw [hph]; exact List.mem_append_left _ hm)
  have htot := sum_bd hpos
  have hdiv : ∀ x, L2.CDiv x sh.sum := fun x => by unfold L2.CDiv; omega
  have l2 : ∀ (i : Nat), i < d → ∀ a b c e f g h y k m n x pp oo, lcGo (lcEl [15, 16] (.tp [.nm 15, .nm 16]) tT (e2 dMul (eVar 15) (e2S dIx (e2S dIx (eVar 16) (eC (.int 1))) (eVar 14))) [a, b, c, e, f, g, h, y, k, m, n, x, pp, oo, some (.int (i : Nat)), none, none]) ((sh.zip hed).map fun p => .tup [.int p.1, dPr p.2]) S =
      some ((sh.zip hed).map fun sp => .int (sp.1 * (sp.2.2.getD i 0)), S) := fun i hi a b c e f g h y k m n x pp oo =>
    lcGo_map _ _ _ fun p hpm => (by
      rw [lcEl_tT]
      have hm := List.of_mem_zip hpm
      have h2 := hp3 p.2 hm.2
      have h1 := hpos p.1 hm.1
      obtain ⟨y, g1, g2⟩ : ∃ y, p.2.2[i]? = some y ∧ p.2.2.getD i 0 = y :=
        ⟨p.2.2[i]'(by omega), List.getElem?_eq_getElem _, by rw [List.getD_eq_getElem?_getD, List.getElem?_eq_getElem (by omega)]; rfl⟩
      rw [g2]
      have c1 : L2.CMul p.1 y := .inl ⟨by omega, by omega⟩
      simp [atI_nat, g1, dMul, c1])
  obtain ⟨o1, l3⟩ := for_app (m := e2 dDiv (eN fSum (aCons (eL (fLc (iZip (eVar 10) (eVar 2)) [15, 16] (.tp [.nm 15, .nm 16]) (tT) (e2 dMul (eVar 15) (e2S dIx (e2S dIx (eVar 16) (eC (.int 1))) (eVar 14))))) (aNil))) (eVar 12)) (S := S) (fun i : Nat => D.int (i : Nat)) (fun i : Nat => D.int (ansAt sh hed i)) (i := 13) (j := 14) (by decide)
    (ρ := [some (.val (.lst (sts.map dI))), some (.val (dLay l)), some (.val (.lst (pairs.map dPr))), some (.val (dI st)), some (.own acc), some (.val (.int (pre.length : Nat))), some (.val (dI (times l.q st))), some (.val (.lst (sc.map D.int))), none, none, some (.val (.lst (sh.map D.int))), none, some (.val (.int sh.sum)), some (.own []), o14, none, none]) (by simp) (by simp) (List.range d) [] o14 (line_small (by simp; omega))
    (fun i hi acc => by
      have hi' : i < d := List.mem_range.mp hi
      simp (maxSteps := 4000000) [vis_cons, zipL_map, l2 i hi', dDiv, hdiv, ansAt, hzt])
  have t4 : m__law_times [dII l.m, .lst ((List.range d).map fun i => D.int (ansAt sh hed i))] S = some (dI (times l.m (answer sh hed d)), S) := m_ltimes_eq rfl (by simp [answer, List.map_map]) (hl.m.sm (by decide))
  have t5 : m__law_clipped [dI st, dI (times l.m (answer sh hed d))] S = some (dI (plus st (times l.m (answer sh hed d))), S) := m_lclip_eq rfl rfl
  have r1 := rgD_nat (n := d) (by omega)
  have ea : after l st hed = plus st (times l.m (answer sh hed d)) := by rw [after, hsc, hsh, bst]
  rw [ea]
  simp at l3
  have hz1 : acc.length < sizeLine := Nat.lt_of_lt_of_le (by omega) (line_small (n := 1001) (by decide))
  refine ⟨some (.val (dI (times l.q st))), some (.val (.lst (sc.map D.int))), some (.val (.lst (sh.map D.int))), some (.val (.int sh.sum)), some (.own ((List.range d).map fun i => D.int (ansAt sh hed i))), o1, ?_⟩
  simp (maxSteps := 4000000) [lookBody, vis_cons, fz_cons, t3, ec, l1, l4, r1, bst, l3, t4, t5, hz1, pure_ints, -List.map_append]
theorem look_loop {d : Nat} {l : Lay} {S : Sto} {sts : List (List Int)} (hd : d ≤ 4) (hl : LayOk d l) : ∀ (rest : List (List Int)) (pre : List Pr) (acc : List D) (o3 o5 o6 o7 o10 o12 o13 o14 : Option LV), (∀ st ∈ rest, Vn 20 d st) → (∀ p ∈ pre, p.2.length = d) → acc.length + rest.length < 1000 → pre.length + rest.length ≤ 1000 →
    ∃ o3' o5' o6' o7' o10' o12' o13' o14', sForGo (.tp [.nm 5, .nm 3]) lookBody (enumL pre.length (rest.map dI)) [some (.val (.lst (sts.map dI))), some (.val (dLay l)), some (.val (.lst ((pre ++ rest.map (own l)).map dPr))), o3, some (.own acc), o5, o6, o7, none, none, o10, none, o12, o13, o14, none, none] S =
      some ((.nx, [some (.val (.lst (sts.map dI))), some (.val (dLay l)), some (.val (.lst ((pre ++ rest.map (own l)).map dPr))), o3', some (.own (acc ++ (laterGo l pre rest).map dI)), o5', o6', o7', none, none, o10', none, o12', o13', o14', none, none]), S)
  | [], pre, acc, o3, o5, o6, o7, o10, o12, o13, o14, _, _, _, _ => ⟨o3, o5, o6, o7, o10, o12, o13, o14, by simp [enumL, sForGo, laterGo]⟩
  | st :: rest, pre, acc, o3, o5, o6, o7, o10, o12, o13, o14, hs, hp, hz, hk => by
    have hst := hs st List.mem_cons_self
    have hall : ∀ p ∈ pre ++ own l st :: rest.map (own l), p.2.length = d := fun p hm => by
      rcases List.mem_append.mp hm with q | q
      · exact hp p q
      · rcases List.mem_cons.mp q with q | q
        · rw [q]; exact (own_len hl).2
        · obtain ⟨x, _, rfl⟩ := List.mem_map.mp q
          exact (own_len hl).2
    obtain ⟨a6, a7, a10, a12, a13, a14, e1⟩ := look_step (S := S) (sts := sts) (acc := acc) o6 o7 o10 o12 o13 o14 hd hl hst hall (by simp at hz; omega) (by simp at hk; omega)
    obtain ⟨b3, b5, b6, b7, b10, b12, b13, b14, ih⟩ := look_loop (S := S) (sts := sts) hd hl rest (pre ++ [own l st]) (acc ++ [dI (after l st (pre ++ [own l st]))]) (some (.val (dI st))) (some (.val (.int (pre.length : Nat)))) a6 a7 a10 a12 a13 a14 (fun x hx => hs x (List.mem_cons_of_mem _ hx)) (fun p hm => by
      rcases List.mem_append.mp hm with q | q
      · exact hp p q
      · rw [List.mem_singleton.mp q]; exact (own_len hl).2) (by simp at hz ⊢; omega) (by simp at hk ⊢; omega)
    refine ⟨b3, b5, b6, b7, b10, b12, b13, b14, ?_⟩
    have el : (pre ++ [own l st]).length = pre.length + 1 := by simp
    have ep : pre ++ [own l st] ++ rest.map (own l) = pre ++ own l st :: rest.map (own l) := by simp
    rw [el, ep] at ih
    rw [List.map_cons, List.map_cons, enumL, show laterGo l pre (st :: rest) = after l st (pre ++ [own l st]) :: laterGo l (pre ++ [own l st]) rest from rfl]
    unfold sForGo
    generalize pre ++ own l st :: rest.map (own l) = pairs at e1 ih
    generalize laterGo l (pre ++ [own l st]) rest = lg at ih
    generalize after l st (pre ++ [own l st]) = af at e1 ih
    simp only [asgT_tp, asgTs_cons, asgTs_nil, asgT_nm, List.length_cons, List.length_nil, Nat.reduceAdd, Nat.reduceLT, if_true, Option.bind_some, List.set_cons_succ, List.set_cons_zero, e1]
    rw [ih]
    simp
theorem m_looked_eq {d : Nat} {l : Lay} {S : Sto} {sts : List (List Int)} (hd : d ≤ 4) (hl : LayOk d l) (hs : ∀ st ∈ sts, Vn 20 d st) (hz : sts.length < 1000) :
    m__law_looked [.lst (sts.map dI), dLay l] S = some (.tup [.lst ((sts.map (own l)).map dPr), .lst ((later l sts).map dI)], S) := by
  have e : lcGo (lcEl [3] (.nm 3) tT (eTup (aCons (eF m__law_times (aCons (e2S dIx (eVar 1) (eC (.int 1))) (aCons (eVar 3) (aNil)))) (aCons (eF m__law_times (aCons (e2S dIx (eVar 1) (eC (.int 2))) (aCons (eVar 3) (aNil)))) (aNil)))) [some (.lst (sts.map dI)), some (dLay l), none, none, none, none, none, none, none, none, none, none, none, none, none, none, none]) (sts.map dI) S = some (sts.map fun st => dPr (own l st), S) :=
    lcGo_map _ _ _ fun x hx => lcEl_one rfl (by
      have t1 : m__law_times [dII l.k, dI x] S = some (dI (times l.k x), S) := m_ltimes_eq rfl rfl (hl.k.sm (by decide))
      have t2 : m__law_times [dII l.v, dI x] S = some (dI (times l.v x), S) := m_ltimes_eq rfl rfl (hl.v.sm (by decide))
      simp [t1, t2, own])
  have e2 : (sts.map fun st => dPr (own l st)) = (sts.map (own l)).map dPr := by rw [List.map_map]; rfl
  rw [e2] at e
  obtain ⟨b3, b5, b6, b7, b10, b12, b13, b14, hl⟩ := look_loop (S := S) (sts := sts) hd hl sts [] [] none none none none none none none none hs (fun p hp => absurd hp List.not_mem_nil) (by simpa using hz) (by simp; omega)
  rw [show laterGo l [] sts = later l sts from rfl] at hl
  unfold lookBody at hl
  simp only [List.nil_append, List.length_nil] at hl
  generalize (sts.map (own l)) = pairs at e hl
  generalize later l sts = lt at hl
  simp (maxSteps := 4000000) [m__law_looked, runDef, b__law_looked, e, hl, fz_cons, -List.map_map]
end Wk
end
section
set_option Elab.async false
set_option linter.all false
set_option maxRecDepth 100000
set_option maxHeartbeats 800000
/-! P7: layer by layer and token by token give the same. Own work. -/
namespace Wk
open PySem J
def finalS : List Lay → List (List Int) → List (List Int)
  | [], s => s
  | l :: ls, s => finalS ls (later l s)
theorem laterGo_snoc (l : Lay) (st : List Int) : ∀ (sts : List (List Int)) (pre : List Pr), laterGo l pre (sts ++ [st]) = laterGo l pre sts ++ [after l st (pre ++ sts.map (own l) ++ [own l st])]
  | [], pre => by simp [laterGo]
  | s :: sts, pre => by
    simp only [List.cons_append, laterGo, laterGo_snoc l st sts, List.map_cons]
    simp
theorem later_snoc (l : Lay) (st : List Int) (sts : List (List Int)) : later l (sts ++ [st]) = later l sts ++ [after l st (sts.map (own l) ++ [own l st])] := by
  unfold later; rw [laterGo_snoc]; simp
def Rel : List Lay → Nat → List (List Pr) → List (List Int) → Prop
  | [], _, _, _ => True
  | l :: ls, i, rows, sts => rows.map (·.getD i ([], [])) = sts.map (own l) ∧ Rel ls (i + 1) rows (later l sts)
theorem runL_rel : ∀ (ls : List Lay) (i : Nat) (rows : List (List Pr)) (sts : List (List Int)) (st : List Int), Rel ls i rows sts →
    (∃ z, finalS ls (sts ++ [st]) = z ++ [(runL rows ls i st).2]) ∧
    ∀ row', (∀ j, row'.getD (i + j) ([], []) = (runL rows ls i st).1.getD j ([], [])) → Rel ls i (rows ++ [row']) (sts ++ [st])
  | [], i, rows, sts, st, _ => ⟨⟨sts, rfl⟩, fun _ _ => trivial⟩
  | l :: ls, i, rows, sts, st, h => by
    have ea : after l st (rows.map (·.getD i ([], [])) ++ [own l st]) = after l st (sts.map (own l) ++ [own l st]) := by rw [h.1]
    obtain ⟨⟨z, h1⟩, h2⟩ := runL_rel ls (i + 1) rows (later l sts) (after l st (sts.map (own l) ++ [own l st])) h.2
    have er : runL rows (l :: ls) i st = ((own l st :: (runL rows ls (i + 1) (after l st (sts.map (own l) ++ [own l st]))).1), (runL rows ls (i + 1) (after l st (sts.map (own l) ++ [own l st]))).2) := by
      rw [← ea]; rfl
    refine ⟨⟨z, ?_⟩, fun row' hr => ⟨?_, ?_⟩⟩
    · rw [er]
      show finalS ls (later l (sts ++ [st])) = _
      rw [later_snoc, h1]
    · have := hr 0
      rw [er] at this
      rw [List.map_append, List.map_append, h.1]
      simp only [List.map_cons, List.map_nil, List.append_cancel_left_eq, List.cons.injEq, and_true]
      exact this
    · rw [later_snoc]
      refine h2 row' fun j => ?_
      have := hr (j + 1)
      rw [er] at this
      rw [show i + 1 + j = i + (j + 1) by omega, this]
      rfl
def initsGo (N : Net) : Nat → List Int → List (List Int)
  | _, [] => []
  | p, t :: ts => st0 N p t :: initsGo N (p + 1) ts
theorem initsGo_snoc (N : Net) (t : Int) : ∀ (ts : List Int) (p : Nat), initsGo N p (ts ++ [t]) = initsGo N p ts ++ [st0 N (p + ts.length) t]
  | [], p => by simp [initsGo]
  | s :: ts, p => by
    simp only [List.cons_append, initsGo, initsGo_snoc N t ts, List.length_cons]
    rw [show p + 1 + ts.length = p + (ts.length + 1) by omega]
theorem rowsN_snoc (N : Net) (t : Int) : ∀ (ts : List Int) (rows : List (List Pr)), rowsN N (ts ++ [t]) rows = rowsN N ts rows ++ [(stepN N (rowsN N ts rows) t).1]
  | [], rows => rfl
  | s :: ts, rows => by
    simp only [List.cons_append, rowsN]
    rw [rowsN_snoc N t ts]
theorem rowsN_len (N : Net) : ∀ (ts : List Int) (rows : List (List Pr)), (rowsN N ts rows).length = rows.length + ts.length
  | [], rows => rfl
  | s :: ts, rows => by
    simp only [rowsN]
    rw [rowsN_len N ts]; simp; omega
theorem rel_nil : ∀ (ls : List Lay) (i : Nat), Rel ls i [] []
  | [], _ => trivial
  | l :: ls, i => ⟨rfl, rel_nil ls (i + 1)⟩
theorem rows_rel (N : Net) : ∀ (n : Nat) (ts : List Int), ts.length = n → Rel N.ls 0 (rowsN N ts []) (initsGo N 0 ts)
  | 0, [], _ => rel_nil _ _
  | 0, _ :: _, h => by simp at h
  | n + 1, ts, h => by
    obtain ⟨t0, t, rfl⟩ : ∃ t0 t, ts = t0 ++ [t] := by
      refine ⟨ts.dropLast, ts.getLast (fun z => by rw [z] at h; simp at h), (List.dropLast_concat_getLast _).symm⟩
    have ih := rows_rel N n t0 (by simp at h; exact h)
    have e := (runL_rel N.ls 0 (rowsN N t0 []) (initsGo N 0 t0) (st0 N t0.length t) ih).2 (stepN N (rowsN N t0 []) t).1 (fun j => by
      rw [Nat.zero_add, stepN, rowsN_len]; simp)
    rw [rowsN_snoc, initsGo_snoc, Nat.zero_add]
    exact e
theorem final_last (N : Net) (ts : List Int) (t : Int) : ∃ z, finalS N.ls (initsGo N 0 (ts ++ [t])) = z ++ [(stepN N (rowsN N ts []) t).2] := by
  have e := (runL_rel N.ls 0 (rowsN N ts []) (initsGo N 0 ts) (st0 N ts.length t) (rows_rel N _ ts rfl)).1
  rw [initsGo_snoc, Nat.zero_add]
  rw [stepN, rowsN_len]
  simpa using e
/-! ### the law's own answer -/
theorem m_lseen_win {W : Win} {ts : List Int} {S : Sto} (h : WinOk W) (hz : ts.length ≤ 900) : ∃ d, m__law_seen [dWin W, dI ts] S = some (.tup [d, dI (winW W ts)], S) := by
  have ec : cutL (ts.map D.int) (some (mx 0 ((ts.length : Nat) - (W.k : Nat)))) none = (ts.drop (ts.length - W.k)).map D.int := by
    rw [max0, cut_drop, List.map_drop]
  have e1 : ∀ (es : List Pr), lcGo (lcEl [4, 5] (.tp [.nm 4, .nm 5]) (tB (e2S dEq (eVar 4) (eVar 2))) (eVar 5) [some (dWin W), some (dI ts), some (dI (ts.drop (ts.length - W.k))), none, none, none, none, none, none, none, none, none, none, none, none, none, none, none]) (es.map dPr) S = some ((es.filter fun e => decide (e.1 = ts.drop (ts.length - W.k))).map fun e => dI e.2, S) := by
    intro es
    generalize ts.drop (ts.length - W.k) = last
    induction es with
    | nil => rfl
    | cons e es ih =>
      rw [List.map_cons, lcGo, lcEl_if]
      by_cases hh : e.1 = last
      · simp [eq_ints, hh, ih, oc]
      · simp [eq_ints, hh, ih, oc]
  have e2 : ∀ a b c e f g h i j k l m n o p, lcGo (lcEl [6] (.nm 6) tT (eTup (aCons (eVar 6) aNil)) [some a, some (dI ts), b, c, e, f, none, g, h, i, j, k, l, m, n, o, p, none]) (ts.map D.int) S = some (ts.map fun t => .tup [.int t], S) := fun a b c e f g h i j k l m n o p =>
    lcGo_map _ _ _ fun x hx => lcEl_one rfl (by simp)
  refine ⟨.tup (ts.map fun t => .tup [.int t]), ?_⟩
  have ew : ((W.es.filter fun e => decide (e.1 = ts.drop (ts.length - W.k))).map (fun e => dI e.2) ++ [dI W.df])[0]? = some (dI (winW W ts)) := by
    unfold winW
    generalize W.es = es
    induction es with
    | nil => rfl
    | cons e es ih =>
      by_cases hh : e.1 = ts.drop (ts.length - W.k)
      · simp [hh]
      · simp [hh]
        simpa using ih
  have hz2 : ((W.es.filter fun e => decide (e.1 = ts.drop (ts.length - W.k))).map (fun e => dI e.2)).length + 1 ≤ sizeLine := line_small (by
    rw [List.length_map]
    have := List.length_filter_le (fun e : Pr => decide (e.1 = ts.drop (ts.length - W.k))) W.es
    have := h.few
    omega)
  have e1' := e1 W.es
  generalize (W.es.filter fun e => decide (e.1 = ts.drop (ts.length - W.k))).map (fun e => dI e.2) = fs at e1' ew hz2
  generalize ts.drop (ts.length - W.k) = last at ec e1'
  generalize winW W ts = ww at ew
  simp (maxSteps := 4000000) [m__law_seen, runDef, b__law_seen, ec, e1', e2, hz2, ew]
  rw [List.getElem?_eq_getElem (by simp)] at ew
  exact Option.some.inj ew
theorem later_ok {d : Nat} {l : Lay} (hl : LayOk d l) : ∀ {sts : List (List Int)} {pre : List Pr}, (∀ st ∈ sts, Vn 20 d st) → (∀ st ∈ laterGo l pre sts, Vn 20 d st) ∧ (laterGo l pre sts).length = sts.length
  | [], _, _ => ⟨fun st h => absurd h List.not_mem_nil, rfl⟩
  | s :: sts, pre, h => by
    obtain ⟨a, b⟩ := later_ok hl (pre := pre ++ [own l s]) fun x hx => h x (List.mem_cons_of_mem _ hx)
    refine ⟨fun st hm => ?_, by simp [laterGo, b]⟩
    rcases List.mem_cons.mp hm with q | q
    · rw [q]; exact after_ok hl (h s List.mem_cons_self)
    · exact a st q
theorem initsGo_ok {N : Net} (h : NetOk N) : ∀ {ts : List Int} {p : Nat}, TokOk N.many ts → (∀ st ∈ initsGo N p ts, Vn 20 N.d st) ∧ (initsGo N p ts).length = ts.length
  | [], _, _ => ⟨fun st h => absurd h List.not_mem_nil, rfl⟩
  | t :: ts, p, ht => by
    obtain ⟨a, b⟩ := initsGo_ok h (p := p + 1) fun x hx => ht x (List.mem_cons_of_mem _ hx)
    refine ⟨fun st hm => ?_, by simp [initsGo, b]⟩
    rcases List.mem_cons.mp hm with q | q
    · rw [q]; exact st0_ok h (ht t List.mem_cons_self)
    · exact a st q
def seenBody : SM := (sSeq (sAsg (.tp [.nm 12, .nm 8]) (eF m__law_looked (aCons (eVar 8) (aCons (eVar 11) (aNil)))))
    (sSet 10 (eL (fLc (iZip (eVar 10) (eVar 12)) [13, 14] (.tp [.nm 13, .nm 14]) (tT) (e2 dAdd (eVar 13) (eTup (aCons (eVar 14) (aNil))))))))
theorem lc_rows {env : Env'} (h13 : 13 < env.length) (h14 : 14 < env.length) {S : Sto} : ∀ (rs : List (List D)) (ps : List D), (∀ r ∈ rs, r.length ≤ 100) →
    lcGo (lcEl [13, 14] (.tp [.nm 13, .nm 14]) (tT) (e2 dAdd (eVar 13) (eTup (aCons (eVar 14) (aNil)))) env) (zipL (rs.map D.tup) ps) S = some ((rs.zip ps).map fun q => .tup (q.1 ++ [q.2]), S)
  | [], ps, _ => by simp [zipL, lcGo]
  | _ :: _, [], _ => by simp [zipL, lcGo]
  | r :: rs, p :: ps, h => by
    have ih := lc_rows h13 h14 (S := S) rs ps fun x hx => h x (List.mem_cons_of_mem _ hx)
    have hz : r.length + 1 ≤ sizeLine := line_small (by have := h r List.mem_cons_self; omega)
    have e1 : ∀ (a b : Option D) , ((((env.set 14 none).set 13 none).set 13 a).set 14 b)[13]? = some a := fun a b => by
      rw [List.getElem?_set_ne (by decide), List.getElem?_set_self (by simpa using h13)]
    have e2 : ∀ (a b : Option D) , ((((env.set 14 none).set 13 none).set 13 a).set 14 b)[14]? = some b := fun a b => by
      rw [List.getElem?_set_self (by simpa using h14)]
    rw [List.map_cons, zipL, lcGo, lcEl_tT]
    simp [h13, h14, e1, e2, hz, ih, oc, -List.set_set]
theorem seen_loop {d : Nat} {S : Sto} (hd : d ≤ 4) (v0 v1 v7 : D) : ∀ (ls : List Lay) (sts : List (List Int)) (rows : List (List D)) (o11 o12 : Option LV), (∀ l ∈ ls, LayOk d l) → (∀ st ∈ sts, Vn 20 d st) → sts.length < 1000 → (∀ r ∈ rows, r.length + ls.length ≤ 100) →
    ∃ o11' o12' rows', sForGo (.nm 11) seenBody (ls.map dLay) [some (.val v0), some (.val v1), none, none, none, none, none, some (.val v7), some (.val (.lst (sts.map dI))), none, some (.val (.lst (rows.map D.tup))), o11, o12, none, none, none, none, none] S =
      some ((.nx, [some (.val v0), some (.val v1), none, none, none, none, none, some (.val v7), some (.val (.lst ((finalS ls sts).map dI))), none, some (.val (.lst rows')), o11', o12', none, none, none, none, none]), S)
  | [], sts, rows, o11, o12, _, _, _, _ => ⟨o11, o12, rows.map D.tup, by simp [sForGo, finalS]⟩
  | l :: ls, sts, rows, o11, o12, hl, hs, hz, hr => by
    have h1 := hl l List.mem_cons_self
    have e := m_looked_eq (S := S) hd h1 hs hz
    obtain ⟨a, b⟩ := later_ok h1 (pre := []) hs
    have er : ∀ r ∈ rows, r.length ≤ 100 := fun r hm => by have := hr r hm; omega
    generalize hn : (rows.zip ((sts.map (own l)).map dPr)).map (fun q => q.1 ++ [q.2]) = rows2
    have hn2 : ((rows.zip ((sts.map (own l)).map dPr)).map fun q => D.tup (q.1 ++ [q.2])) = rows2.map D.tup := by
      rw [← hn]
      generalize (sts.map (own l)).map dPr = ps
      rw [List.map_map]; rfl
    obtain ⟨c, f, g, ih⟩ := seen_loop (S := S) hd v0 v1 v7 ls (later l sts) rows2 (some (.val (dLay l))) (some (.val (.lst ((sts.map (own l)).map dPr)))) (fun x hx => hl x (List.mem_cons_of_mem _ hx)) a (by rw [later, b]; exact hz) (fun r hm => by
      rw [← hn] at hm
      obtain ⟨q, hq, rfl⟩ := List.mem_map.mp hm
      have := hr q.1 (List.of_mem_zip hq).1
      simp at this ⊢; omega)
    refine ⟨c, f, g, ?_⟩
    have hlc := fun (env : Env') (h13 : 13 < env.length) (h14 : 14 < env.length) => lc_rows h13 h14 (S := S) rows ((sts.map (own l)).map dPr) er
    rw [hn2] at hlc
    rw [List.map_cons]
    unfold sForGo
    rw [show finalS (l :: ls) sts = finalS ls (later l sts) from rfl]
    generalize finalS ls (later l sts) = fs at ih
    generalize later l sts = lt at e ih
    generalize (sts.map (own l)).map dPr = ps at e ih hlc
    simp [seenBody, vis_cons, e, hlc]
    simpa [seenBody] using ih
@[simp] theorem fInt_int (i : Int) : fInt [.int i] = some (.int i) := rfl
theorem lc_inits {N : Net} {S : Sto} {env : Env'} (h : NetOk N) (h9 : 9 < env.length) (h6 : 6 < env.length) (h0 : env[0]? = some (some (dNet N))) (h7 : env[7]? = some (some (dII N.pl))) : ∀ (ts : List Int) (p : Nat), TokOk N.many ts →
    lcGo (lcEl [9, 6] (.tp [.nm 9, .nm 6]) (tT) (eF m__law_clipped (aCons (e2S dIx (e2S dIx (eVar 0) (eC (.int 3))) (eVar 6)) (aCons (e2S dIx (eVar 7) (e2 dMod (eN fInt (aCons (eVar 9) (aNil))) (eN fLen (aCons (eVar 7) (aNil))))) (aNil)))) env) (enumL p (ts.map D.int)) S = some ((initsGo N p ts).map dI, S)
  | [], p, _ => by simp [enumL, lcGo, initsGo]
  | t :: ts, p, ht => by
    have ih := lc_inits h h9 h6 h0 h7 (S := S) ts (p + 1) fun x hx => ht x (List.mem_cons_of_mem _ hx)
    have ht1 := ht t List.mem_cons_self
    obtain ⟨n, rfl⟩ := Int.eq_ofNat_of_zero_le ht1.1
    have h1 : n < N.em.length := by rw [h.eml]; omega
    have hp0 : 0 < N.pl.length := by have := h.pl0; omega
    have h2 : p % N.pl.length < N.pl.length := Nat.mod_lt _ hp0
    have g1 : L2.atI (N.em.map dI) (n : Int) = some (dI (N.em.getD n [])) := by rw [atI_nat, List.getElem?_map, getD_at [] h1]; rfl
    have g2 : L2.atI (N.pl.map dI) ((p : Int) % (N.pl.length : Int)) = some (dI (N.pl.getD (p % N.pl.length) [])) := by
      rw [← Int.natCast_emod, atI_nat, List.getElem?_map, getD_at [] h2]; rfl
    have g3 : dMod (.int (p : Nat)) (.int (N.pl.length : Nat)) = some (.int ((p : Int) % (N.pl.length : Int))) := by
      have : (0 : Int) < (N.pl.length : Nat) := by omega
      simp only [dMod, this, if_true]
    have t1 : m__law_clipped [dI (N.em.getD n []), dI (N.pl.getD (p % N.pl.length) [])] S = some (dI (st0 N p (n : Int)), S) := m_lclip_eq rfl rfl
    have q0 : ∀ (a b : Option D), (((((env.set 6 none).set 9 none).set 9 a).set 6 b))[0]? = some (some (dNet N)) := fun a b => by
      rw [List.getElem?_set_ne (by decide), List.getElem?_set_ne (by decide), List.getElem?_set_ne (by decide), List.getElem?_set_ne (by decide), h0]
    have q7 : ∀ (a b : Option D), (((((env.set 6 none).set 9 none).set 9 a).set 6 b))[7]? = some (some (dII N.pl)) := fun a b => by
      rw [List.getElem?_set_ne (by decide), List.getElem?_set_ne (by decide), List.getElem?_set_ne (by decide), List.getElem?_set_ne (by decide), h7]
    have q6 : ∀ (a b : Option D), (((((env.set 6 none).set 9 none).set 9 a).set 6 b))[6]? = some b := fun a b => by
      rw [List.getElem?_set_self (by simpa using h6)]
    have q9 : ∀ (a b : Option D), (((((env.set 6 none).set 9 none).set 9 a).set 6 b))[9]? = some a := fun a b => by
      rw [List.getElem?_set_ne (by decide), List.getElem?_set_self (by simpa using h9)]
    generalize N.em.getD n [] = ev at g1 t1
    generalize N.pl.getD (p % N.pl.length) [] = pv at g2 t1
    rw [List.map_cons, enumL, lcGo, lcEl_tT, show initsGo N p ((n : Int) :: ts) = st0 N p (n : Int) :: initsGo N (p + 1) ts from rfl]
    simp [h9, h6, q0, q6, q7, q9, g1, g2, g3, t1, ih, oc, -List.set_set]
theorem mul_empties {n : Nat} (hz : n ≤ 1000) : dMul (.lst [.tup []]) (.int (n : Nat)) = some (.lst ((List.replicate n ([] : List D)).map D.tup)) := by
  have h0 : n ≤ sizeLine := line_small (by omega)
  have h1 : (-(2 ^ 63) : Int) ≤ (n : Nat) ∧ ((n : Nat) : Int) < 2 ^ 63 ∧ 1 * n ≤ sizeLine := ⟨by omega, by omega, by rw [Nat.one_mul]; exact h0⟩
  have e : (List.replicate n [D.tup []]).flatten = (List.replicate n ([] : List D)).map D.tup := by
    rw [List.flatten_replicate_singleton, List.map_replicate]
  simp only [dMul, List.length_cons, List.length_nil, Nat.zero_add, Int.toNat_natCast]
  rw [if_pos h1, e]
end Wk
end
section
set_option Elab.async false
set_option linter.all false
set_option maxRecDepth 100000
set_option maxHeartbeats 800000
/-! P8: the law's answer for a net. Own work. -/
namespace Wk
open PySem J
theorem mul_set {m1 m2 : Env' → M D} {ρ : LEnv} {S : Sto} {a b c : D} {i : Nat} (h1 : m1 (vis ρ) S = some (a, S)) (h2 : m2 (vis ρ) S = some (b, S)) (h3 : dMul a b = some c) (hi : i < ρ.length) : sSet i (e2 dMul m1 m2) ρ S = some ((.nx, ρ.set i (some (.val c))), S) := by
  simp only [sSet_ev, e2_ev, h1, h2, h3, Option.bind_some, putV_ev, hi, if_true]
theorem sSeq_nx {m1 m2 : SM} {ρ ρ' : LEnv} {S S' : Sto} (h : m1 ρ S = some ((.nx, ρ'), S')) : sSeq m1 m2 ρ S = m2 ρ' S' := by
  simp [h]
theorem m_lseen_net {N : Net} {ts : List Int} {t : Int} {S : Sto} (h : NetOk N) (ht : TokOk N.many (ts ++ [t])) (hz : ts.length ≤ 900) : ∃ d, m__law_seen [dNet N, dI (ts ++ [t])] S = some (.tup [d, dI (netW N ts t)], S) := by
  have e3 : ¬ (("net" : Str) = "window") := by decide +kernel
  have i0 := lc_inits (S := S) h (env := [some (dNet N), some (dI (ts ++ [t])), none, none, none, none, none, some (dII N.pl), none, none, none, none, none, none, none, none, none, none]) (by simp) (by simp) rfl rfl (ts ++ [t]) 0 ht
  obtain ⟨i1, i2⟩ := initsGo_ok (p := 0) h ht
  have hd4 : N.d ≤ 4 := by have := h.d; omega
  have hmul := mul_empties (n := (ts ++ [t]).length) (by simp; omega)
  obtain ⟨o11, o12, rows', hl⟩ := seen_loop (S := S) hd4 (dNet N) (dI (ts ++ [t])) (dII N.pl) N.ls (initsGo N 0 (ts ++ [t])) (List.replicate (ts ++ [t]).length ([] : List D)) none none h.ls i1 (by rw [i2]; simp; omega) (fun r hr => by
    rw [(List.mem_replicate.mp hr).2]; have := h.lsl; simp; omega)
  obtain ⟨z, hf⟩ := final_last N ts t
  rw [hf] at hl
  generalize hst : (stepN N (rowsN N ts []) t).2 = st at hl
  have eo : ∀ a b c e f g h' j k, lcGo (lcEl [16] (.nm 16) tT (eF m__law_dot (aCons (eVar 16) (aCons (e2S dIx (eVar 8) (e1 dNeg (eC (.int 1)))) aNil))) [a, b, none, none, none, none, none, c, some (.lst ((z ++ [st]).map dI)), none, e, f, g, none, none, h', j, k]) (N.ou.map dI) S = some (N.ou.map fun o => .int (dot o st), S) := fun a b c e f g h' j k =>
    lcGo_map _ _ _ fun x hx => lcEl_one rfl (by
      have e : m__law_dot [dI x, dI st] S = some (.int (dot x st), S) := m_ldot_eq rfl rfl ((h.our x hx).sm (by decide))
      have e7 : L2.atI ((z ++ [st]).map dI) (-1) = some (dI st) := by rw [atI_m1]; simp
      generalize (z ++ [st]).map dI = zz at e7
      simp [e, e7])
  generalize hsc : N.ou.map (fun o => dot o st) = sc at *
  have es : (N.ou.map fun o => D.int (dot o st)) = sc.map D.int := by rw [← hsc, List.map_map]; rfl
  rw [es] at eo
  have hsc0 : sc ≠ [] := fun zz => by
    have := congrArg List.length hsc
    rw [zz, List.length_map, h.oul] at this
    have := h.many
    simp at *; omega
  have e9 : fMax [.lst (sc.map D.int)] = some (.int (maxL sc)) := by simp [fMax, hsc0]
  have l4 : ∀ a b c e f g h' i, lcGo (lcEl [17] (.nm 17) tT (e2 dShl (eC (.int 1)) (eN fMax (aCons (eC (.int 0)) (aCons (e2 dSub (eC (.int 6)) (e2 dSub (eN fMax (aCons (eVar 15) (aNil))) (eVar 17))) (aNil))))) [a, b, none, none, none, none, none, c, e, none, f, g, h', none, none, some (.lst (sc.map D.int)), none, i]) (sc.map D.int) S = some (sc.map fun x => .int (2 ^ (mx 0 (6 - (maxL sc - x))).toNat), S) := fun a b c e f g h' i =>
    lcGo_map _ _ _ fun x hx => lcEl_one rfl (by
      have h3 := maxL_le hx
      have h2 : L2.CPow 1 (mx 0 (6 - (maxL sc - x))) := by
        unfold L2.CPow mx
        refine ⟨?_, ?_, by decide⟩ <;> split <;> omega
      simp [dShl, h2, e9])
  have e10 : (sc.map fun x => D.int (2 ^ (mx 0 (6 - (maxL sc - x))).toNat)) = (netW N ts t).map D.int := by rw [netW, hst, outN, hsc, shares, List.map_map]; rfl
  rw [e10] at l4
  refine ⟨.tup rows', ?_⟩
  generalize ts ++ [t] = tt at *
  generalize netW N ts t = ww at *
  generalize initsGo N 0 tt = ii at *
  have sA : ∀ ρ : LEnv, ρ = [some (.val (dNet N)), some (.val (dI tt)), none, none, none, none, none, none, none, none, none, none, none, none, none, none, none, none] → ∀ m, sIf (tB (e2S dEq (e2S dIx (eVar 0) (eC (.int 0))) (eC (.str "window")))) m (sNop) ρ S = some ((.nx, ρ), S) := fun ρ hρ m => by subst hρ; simp [e3]
  unfold m__law_seen runDef
  simp only [List.length_cons, List.length_nil, Nat.zero_add, Nat.reduceAdd, if_true, beq_self_eq_true, List.map_cons, List.map_nil, List.replicate, Nat.reduceSub, List.cons_append, List.nil_append]
  unfold b__law_seen
  rw [sSeq_nx (sA _ rfl _)]
  rw [sSeq_nx (m1 := sSet 7 _) (ρ' := [some (.val (dNet N)), some (.val (dI tt)), none, none, none, none, none, some (.val (dII N.pl)), none, none, none, none, none, none, none, none, none, none]) (S' := S) (by simp)]
  rw [sSeq_nx (m1 := sSet 8 _) (ρ' := [some (.val (dNet N)), some (.val (dI tt)), none, none, none, none, none, some (.val (dII N.pl)), some (.val (.lst (ii.map dI))), none, none, none, none, none, none, none, none, none]) (S' := S) (by simp [i0])]
  rw [sSeq_nx (m1 := sSet 10 _) (ρ' := [some (.val (dNet N)), some (.val (dI tt)), none, none, none, none, none, some (.val (dII N.pl)), some (.val (.lst (ii.map dI))), none, some (.val (.lst ((List.replicate tt.length ([] : List D)).map D.tup))), none, none, none, none, none, none, none]) (S' := S) (mul_set (b := .int (tt.length : Nat)) (by simp) (by simp) hmul (by simp))]
  rw [sSeq_nx (m1 := sFor _ _ _) (S' := S) (by unfold seenBody at hl; simp only [sFor_ev]; rw [show (iSeq (e2S dIx (eVar 0) (eC (.int 5)))) (vis _) S = some (N.ls.map dLay, S) by simp]; exact hl)]
  rw [sSeq_nx (m1 := sSet 15 _) (ρ' := [some (.val (dNet N)), some (.val (dI tt)), none, none, none, none, none, some (.val (dII N.pl)), some (.val (.lst ((z ++ [st]).map dI))), none, some (.val (.lst rows')), o11, o12, none, none, some (.val (.lst (sc.map D.int))), none, none]) (S' := S) (by simp [vis_cons, eo, -List.map_append])]
  simp [fz_cons, l4, -List.map_append]
end Wk
end
section
set_option Elab.async false
set_option linter.all false
set_option maxRecDepth 100000
set_option maxHeartbeats 800000
/-! P9: the deck. Own work. -/
namespace Wk
open PySem J
abbrev deckD (m k : Int) : List (L2.Key × D) := [(.inr ("left" : PySem.Str), .ob 0), (.inr ("mixed" : PySem.Str), .int m), (.inr ("draws" : PySem.Str), .int k)]
abbrev deckS (left : List Int) (m k : Int) (rest : Sto) : Sto := .lst (left.map D.int) :: .dK (deckD m k) :: rest
theorem find_left (m k : Int) : findK (deckD m k) (.inr ("left" : PySem.Str)) = some (.ob 0) := by
  have a : (Sum.inr ("left" : PySem.Str) : L2.Key) = .inr ("left" : PySem.Str) := rfl
  simp [findK]
theorem ne_lm : ¬ ((.inr ("left" : PySem.Str) : L2.Key) = .inr ("mixed" : PySem.Str)) := by decide +kernel
theorem ne_ld : ¬ ((.inr ("left" : PySem.Str) : L2.Key) = .inr ("draws" : PySem.Str)) := by decide +kernel
theorem ne_md : ¬ ((.inr ("mixed" : PySem.Str) : L2.Key) = .inr ("draws" : PySem.Str)) := by decide +kernel
theorem find_mixed (m k : Int) : findK (deckD m k) (.inr ("mixed" : PySem.Str)) = some (.int m) := by
  simp only [findK, deckD, List.find?_cons, ne_lm, decide_false, decide_true, Option.map_some]
theorem find_draws (m k : Int) : findK (deckD m k) (.inr ("draws" : PySem.Str)) = some (.int k) := by
  simp only [findK, deckD, List.find?_cons, ne_ld, ne_md, decide_false, decide_true, Option.map_some]
@[simp] theorem ix_left (l : List Int) (m k : Int) (r : Sto) : dIx (deckS l m k r) (.ob 1) (.str "left") = some (.ob 0) := by
  show ((keyD (.str "left")).bind fun k' => findK (deckD m k) k') = _
  exact find_left m k
@[simp] theorem ix_mixed (l : List Int) (m k : Int) (r : Sto) : dIx (deckS l m k r) (.ob 1) (.str "mixed") = some (.int m) := by
  show ((keyD (.str "mixed")).bind fun k' => findK (deckD m k) k') = _
  exact find_mixed m k
@[simp] theorem ix_draws (l : List Int) (m k : Int) (r : Sto) : dIx (deckS l m k r) (.ob 1) (.str "draws") = some (.int k) := by
  show ((keyD (.str "draws")).bind fun k' => findK (deckD m k) k') = _
  exact find_draws m k
@[simp] theorem put_draws (l : List Int) (m k j : Int) (r : Sto) : fPut (deckS l m k r) (.ob 1) (.str "draws") (.int j) = some (deckS l m j r) := by
  show ((keyD (.str "draws")).bind fun k' => if pureD (.int j) = true ∧ (deckD m k).length < sizeLine then some ((deckS l m k r).set 1 (.dK (putD (deckD m k) k' (.int j)))) else none) = _
  have h1 : pureD (.int j) = true ∧ (deckD m k).length < sizeLine := ⟨rfl, Nat.lt_of_lt_of_le (show 3 < 4 by decide) (line_small (n := 4) (by decide))⟩
  have h2 : putD (deckD m k) (.inr ("draws" : PySem.Str)) (.int j) = deckD m j := by
    have n1 : ¬ ((.inr (Str.ofString "left") : L2.Key) = .inr (Str.ofString "draws")) := ne_ld
    have n2 : ¬ ((.inr (Str.ofString "mixed") : L2.Key) = .inr (Str.ofString "draws")) := ne_md
    simp [putD, deckD, n1, n2, -Sum.inr.injEq]
  rw [show keyD (.str "draws") = some (.inr ("draws" : PySem.Str)) from rfl, Option.bind_some, if_pos h1, h2]
  rfl
@[simp] theorem ne_left (l : List Int) (m k : Int) (r : Sto) : dNe (deckS l m k r) (.ob 0) (.lst []) = some (.bl (decide (l ≠ []))) := by
  have h1 : toPyS (deckS l m k r) (.ob 0) = some (.list (l.map .int)) := by
    show ((toPyA (l.map D.int)).map PyData.list) = _
    rw [toPyA_ints]; rfl
  have h2 : toPyS (deckS l m k r) (.lst []) = some (.list []) := rfl
  have h3 : ∀ a : List Int, SeqAt.shaped (.list (a.map .int)) = true := fun a => by
    obtain ⟨ps, x, y, z⟩ := PlD.all (n := 1) (xs := a.map D.int) fun x hx => by
      obtain ⟨i, _, rfl⟩ := List.mem_map.mp hx; exact .int i
    rw [toPyA_ints] at x
    cases x
    exact shaped_of (by simpa [PyData.canLay0] using y) (by simp only [PyData.depth]; omega)
  have h4 := h3 l
  have h5 : SeqAt.shaped (.list []) = true := h3 []
  have e : eqG (deckS l m k r) (.ob 0) (.lst []) = some (decide (l = [])) := by
    simp only [eqG, h1, h2, h4, h5, Bool.and_self, if_true, PyData.eqv]
    have := eqv_ints l []
    simp only [List.map_nil] at this
    rw [this]
  show ((eqG (deckS l m k r) (.ob 0) (.lst [])).map fun b => D.bl (!b)) = _
  rw [e]
  simp
@[simp] theorem pop_left (l : List Int) (c m k : Int) (r : Sto) : fPop (deckS (l ++ [c]) m k r) (.ob 0) = some (.int c, deckS l m k r) := by
  have e : ((l ++ [c]).map D.int)[((l ++ [c]).map D.int).length - 1]? = some (.int c) := by simp
  show ((((l ++ [c]).map D.int)[((l ++ [c]).map D.int).length - 1]?).map fun d => (d, (deckS (l ++ [c]) m k r).set 0 (.lst ((l ++ [c]).map D.int).dropLast))) = _
  rw [e]
  simp
@[simp] theorem app_left (l : List Int) (c m k : Int) (r : Sto) (h : l.length < 1000) : fAppC (deckS l m k r) (.ob 0) (.int c) = some (deckS (l ++ [c]) m k r) := by
  show (if pureD (.int c) = true ∧ (l.map D.int).length < sizeLine then some ((deckS l m k r).set 0 (.lst (l.map D.int ++ [.int c]))) else none) = _
  rw [if_pos ⟨rfl, Nat.lt_of_lt_of_le (by simpa using h) (line_small (n := 1000) (by decide))⟩]
  simp
theorem mulR {i j : Int} (h : -(2 ^ 64) < j ∧ j < 2 ^ 64) : dMul (.int i) (.int j) = some (.int (i * j)) := by
  simp only [dMul]; rw [if_pos (.inr h)]
theorem mulL {i j : Int} (h : -(2 ^ 64) < i ∧ i < 2 ^ 64) : dMul (.int i) (.int j) = some (.int (i * j)) := by
  simp only [dMul]; rw [if_pos (.inl h)]
theorem modP {i j : Int} (h : 0 < j) : dMod (.int i) (.int j) = some (.int (i % j)) := by
  simp only [dMod, h, if_true]
theorem divP {i j : Int} (h : 0 < j) (h2 : j < 1073741824) : dDiv (.int i) (.int j) = some (.int (i / j)) := by
  simp only [dDiv]; rw [if_pos (show L2.CDiv i j from ⟨h, h2⟩)]
def drawTail : SM := (sSeq (sSet 2 (e2 dMod (eN fInt (aCons (e2 dAdd (e2 dMul (eVar 2) (eC (.int 48271))) (eC (.int 53))) (aNil))) (eC (.int 2147483563))))
    (sSeq (sSet 2 (e2 dMod (eN fInt (aCons (e2 dAdd (e2 dAdd (e2 dMul (eVar 2) (eVar 2)) (e2 dMul (eC (.int 52713)) (e2S dIx (eVar 0) (eC (.str "draws"))))) (eC (.int 55))) (aNil))) (eC (.int 2147483399))))
    (sSeq (sSet 2 (e2 dMod (eN fInt (aCons (e2 dMul (eVar 2) (eC (.int 48271))) (aNil))) (eC (.int 2147483647))))
    (sRet (e2 dMod (eN fInt (aCons (e2 dDiv (eVar 2) (eC (.int 64))) (aNil))) (eVar 1))))))
theorem set2 {m1 : Env' → M D} {a b : Option LV} {f : Int} {o : Option LV} {S : Sto} {g : Int} (h : m1 (vis [a, b, some (.val (.int f)), o]) S = some (.int g, S)) : sSet 2 m1 [a, b, some (.val (.int f)), o] S = some ((.nx, [a, b, some (.val (.int g)), o]), S) := by
  rw [sSet_ev, h]; rfl
theorem tail_eq {l : List Int} {m k many f : Int} {r : Sto} {o : Option LV} (h0 : 0 < many) :
    ∃ x o', drawTail [some (.val (.ob 1)), some (.val (.int many)), some (.val (.int f)), o] (deckS l m k r) = some ((.ret (.int x), o'), deckS l m k r) ∧ 0 ≤ x ∧ x < many := by
  have s1 : ∀ f : Int, (e2 dMod (eN fInt (aCons (e2 dAdd (e2 dMul (eVar 2) (eC (.int 48271))) (eC (.int 53))) (aNil))) (eC (.int 2147483563))) (vis [some (.val (.ob 1)), some (.val (.int many)), some (.val (.int f)), o]) (deckS l m k r) = some (.int ((f * 48271 + 53) % 2147483563), deckS l m k r) := fun f => by
    have a : dMul (.int f) (.int 48271) = some (.int (f * 48271)) := mulR (by decide)
    have b := modP (i := f * 48271 + 53) (j := 2147483563) (by decide)
    simp [a, b]
  have s2 : ∀ f : Int, 0 ≤ f → f < 2147483563 → (e2 dMod (eN fInt (aCons (e2 dAdd (e2 dAdd (e2 dMul (eVar 2) (eVar 2)) (e2 dMul (eC (.int 52713)) (e2S dIx (eVar 0) (eC (.str "draws"))))) (eC (.int 55))) (aNil))) (eC (.int 2147483399))) (vis [some (.val (.ob 1)), some (.val (.int many)), some (.val (.int f)), o]) (deckS l m k r) = some (.int ((f * f + 52713 * k + 55) % 2147483399), deckS l m k r) := fun f h1 h2 => by
    have a : dMul (.int f) (.int f) = some (.int (f * f)) := mulR (by omega)
    have c : dMul (.int 52713) (.int k) = some (.int (52713 * k)) := mulL (by decide)
    have b := modP (i := f * f + 52713 * k + 55) (j := 2147483399) (by decide)
    simp [a, b, c]
  have s3 : ∀ f : Int, (e2 dMod (eN fInt (aCons (e2 dMul (eVar 2) (eC (.int 48271))) (aNil))) (eC (.int 2147483647))) (vis [some (.val (.ob 1)), some (.val (.int many)), some (.val (.int f)), o]) (deckS l m k r) = some (.int ((f * 48271) % 2147483647), deckS l m k r) := fun f => by
    have a : dMul (.int f) (.int 48271) = some (.int (f * 48271)) := mulR (by decide)
    have b := modP (i := f * 48271) (j := 2147483647) (by decide)
    simp [a, b]
  generalize hf1 : (f * 48271 + 53) % 2147483563 = f1 at *
  have b1 : 0 ≤ f1 := by rw [← hf1]; exact Int.emod_nonneg _ (by decide)
  have b2 : f1 < 2147483563 := by rw [← hf1]; exact Int.emod_lt_of_pos _ (by decide)
  have s1' := s1 f
  rw [hf1] at s1'
  have s2' := s2 f1 b1 b2
  generalize (f1 * f1 + 52713 * k + 55) % 2147483399 = f2 at s2'
  have s3' := s3 f2
  generalize (f2 * 48271) % 2147483647 = f3 at s3'
  have d1 := divP (i := f3) (j := 64) (by decide) (by decide)
  have d2 := modP (i := f3 / 64) (j := many) h0
  refine ⟨(f3 / 64) % many, kill [some (.val (.ob 1)), some (.val (.int many)), some (.val (.int f3)), o], ?_, Int.emod_nonneg _ (by omega), Int.emod_lt_of_pos _ h0⟩
  unfold drawTail
  rw [sSeq_nx (set2 s1'), sSeq_nx (set2 s2'), sSeq_nx (set2 s3')]
  simp only [sRet_ev]
  rw [show (e2 dMod (eN fInt (aCons (e2 dDiv (eVar 2) (eC (.int 64))) (aNil))) (eVar 1)) (fz [some (.val (.ob 1)), some (.val (.int many)), some (.val (.int f3)), o]) (deckS l m k r) = some (.int (f3 / 64 % many), deckS l m k r) by simp [d1, d2, fz_cons]]
  rfl
theorem m_draw_eq {l : List Int} {m k many : Int} {r : Sto} (hl : l.length ≤ 900) (h0 : 0 < many) (h1 : many < 1073741824) :
    ∃ x l', m__law_draw [.ob 1, .int many] (deckS l m k r) = some (.int x, deckS l' m (k + 1) r) ∧ 0 ≤ x ∧ x < many ∧ l'.length ≤ l.length := by
  have p1 : sPut (eVar 0) (eC (.str "draws")) (e2 dAdd (e2S dIx (eVar 0) (eC (.str "draws"))) (eC (.int 1))) [some (.val (.ob 1)), some (.val (.int many)), none, none] (deckS l m k r) = some ((.nx, [some (.val (.ob 1)), some (.val (.int many)), none, none]), deckS l m (k + 1) r) := by
    simp
  have c2 : dMul (.int 60013) (.int (k + 1)) = some (.int (60013 * (k + 1))) := mulL (by decide)
  have p2 : sSet 2 (e2 dAdd (e2S dIx (eVar 0) (eC (.str "mixed"))) (e2 dMul (eC (.int 60013)) (e2S dIx (eVar 0) (eC (.str "draws"))))) [some (.val (.ob 1)), some (.val (.int many)), none, none] (deckS l m (k + 1) r) = some ((.nx, [some (.val (.ob 1)), some (.val (.int many)), some (.val (.int (m + 60013 * (k + 1)))), none]), deckS l m (k + 1) r) := by
    simp [c2]
  generalize m + 60013 * (k + 1) = f at p2
  have run : ∀ (x : Int) (o : LEnv) (S : Sto), b__law_draw [some (.val (.ob 1)), some (.val (.int many)), none, none] (deckS l m k r) = some ((.ret (.int x), o), S) → m__law_draw [.ob 1, .int many] (deckS l m k r) = some (.int x, S) := fun x o S h => by
    unfold m__law_draw runDef
    rw [if_pos (show [D.ob 1, D.int many].length = 2 from rfl)]
    show ((b__law_draw [some (.val (.ob 1)), some (.val (.int many)), none, none] (deckS l m k r)).bind _) = _
    rw [h]; rfl
  have dt : b__law_draw = sSeq (sPut (eVar 0) (eC (.str "draws")) (e2 dAdd (e2S dIx (eVar 0) (eC (.str "draws"))) (eC (.int 1))))
    (sSeq (sSet 2 (e2 dAdd (e2S dIx (eVar 0) (eC (.str "mixed"))) (e2 dMul (eC (.int 60013)) (e2S dIx (eVar 0) (eC (.str "draws"))))))
    (sSeq (sIf (tB (e2S dNe (e2S dIx (eVar 0) (eC (.str "left"))) (eL (aNil)))) (sSeq (sSet 3 (ePop (e2S dIx (eVar 0) (eC (.str "left")))))
    (sSeq (sIf (tB (e2 dGe (eVar 3) (e2 dPow (eC (.int 10)) (eC (.int 18))))) (sSeq (sDrop (eAppC (e2S dIx (eVar 0) (eC (.str "left"))) (e2 dDiv (eVar 3) (eN fMax (aCons (eC (.int 2)) (aCons (eVar 1) (aNil)))))))
    (sRet (e2 dMod (eN fInt (aCons (eVar 3) (aNil))) (eVar 1)))) (sNop))
    (sSet 2 (e2 dAdd (eVar 2) (e2 dMod (eN fInt (aCons (eVar 3) (aNil))) (eC (.int 2147483629))))))) (sNop)) drawTail)) := rfl
  rw [dt] at run
  rw [sSeq_nx p1, sSeq_nx p2] at run
  rcases List.eq_nil_or_concat l with rfl | ⟨l0, c, rfl⟩
  · have p3 : ∀ m1, sIf (tB (e2S dNe (e2S dIx (eVar 0) (eC (.str "left"))) (eL (aNil)))) m1 (sNop) [some (.val (.ob 1)), some (.val (.int many)), some (.val (.int f)), none] (deckS [] m (k + 1) r) = some ((.nx, [some (.val (.ob 1)), some (.val (.int many)), some (.val (.int f)), none]), deckS [] m (k + 1) r) := fun m1 => by
      have e := ne_left [] m (k + 1) r
      have e' := ix_left [] m (k + 1) r
      simp only [ne_eq, not_true_eq_false, decide_false] at e
      simp only [sIf_ev, tB_ev, e2S_ev, vis_val, eVar_ev, eC_ev, eL_ev, aNil_ev, List.getElem?_cons_zero, Option.bind_some, e', e, sNop_ev]
      rfl
    obtain ⟨x, o, e, a, b⟩ := tail_eq (l := []) (m := m) (k := k + 1) (f := f) (r := r) (o := none) h0
    rw [sSeq_nx (p3 _)] at run
    exact ⟨x, [], run x o _ e, a, b, by simp⟩
  · have ec : (l0 ++ [c]).length = l0.length + 1 := by simp
    rw [List.concat_eq_append] at *
    have e := ne_left (l0 ++ [c]) m (k + 1) r
    have e' := ix_left (l0 ++ [c]) m (k + 1) r
    have e'' := ix_left l0 m (k + 1) r
    have e4 : decide (l0 ++ [c] ≠ []) = true := by simp
    rw [e4] at e
    have ep := pop_left l0 c m (k + 1) r
    have p3 : sSet 3 (ePop (e2S dIx (eVar 0) (eC (.str "left")))) [some (.val (.ob 1)), some (.val (.int many)), some (.val (.int f)), none] (deckS (l0 ++ [c]) m (k + 1) r) = some ((.nx, [some (.val (.ob 1)), some (.val (.int many)), some (.val (.int f)), some (.val (.int c))]), deckS l0 m (k + 1) r) := by
      rw [sSet_ev, ePop_ev]
      simp only [e2S_ev, vis_val, eVar_ev, eC_ev, List.getElem?_cons_zero, Option.bind_some, e', ep]
      rfl
    have ecell : ∀ m1 m2 : SM, sIf (tB (e2S dNe (e2S dIx (eVar 0) (eC (.str "left"))) (eL (aNil)))) m1 m2 [some (.val (.ob 1)), some (.val (.int many)), some (.val (.int f)), none] (deckS (l0 ++ [c]) m (k + 1) r) = m1 [some (.val (.ob 1)), some (.val (.int many)), some (.val (.int f)), none] (deckS (l0 ++ [c]) m (k + 1) r) := fun m1 m2 => by
      simp only [sIf_ev, tB_ev, e2S_ev, vis_val, eVar_ev, eC_ev, eL_ev, aNil_ev, List.getElem?_cons_zero, Option.bind_some, e', e, if_true]
    have hpow : dPow (.int 10) (.int 18) = some (.int (10 ^ 18)) := by
      simp only [dPow]; rw [if_pos (show L2.CPow 10 18 from ⟨by decide, by decide, by decide⟩)]; rfl
    by_cases hc : (10 ^ 18 : Int) ≤ c
    · have hmx : (0 : Int) < mx 2 many ∧ mx 2 many < 1073741824 := by unfold mx; split <;> omega
      have hd := divP (i := c) hmx.1 hmx.2
      have ha := app_left l0 (c / mx 2 many) m (k + 1) r (by rw [ec] at hl; omega)
      have hm := modP (i := c) h0
      have g : ∀ m2 : SM, sIf (tB (e2 dGe (eVar 3) (e2 dPow (eC (.int 10)) (eC (.int 18))))) (sSeq (sDrop (eAppC (e2S dIx (eVar 0) (eC (.str "left"))) (e2 dDiv (eVar 3) (eN fMax (aCons (eC (.int 2)) (aCons (eVar 1) (aNil))))))) (sRet (e2 dMod (eN fInt (aCons (eVar 3) (aNil))) (eVar 1)))) (sNop) [some (.val (.ob 1)), some (.val (.int many)), some (.val (.int f)), some (.val (.int c))] (deckS l0 m (k + 1) r) = some ((.ret (.int (c % many)), [some (.val (.ob 1)), some (.val (.int many)), some (.val (.int f)), some (.val (.int c))]), deckS (l0 ++ [c / mx 2 many]) m (k + 1) r) := fun m2 => by
        have hge : dGe (.int c) (.int (10 ^ 18)) = some (.bl true) := by rw [dGe_int, decide_eq_true hc]
        have hlc : isLC (deckS l0 m (k + 1) r) (.ob 0) = true := rfl
        have hdrop : sDrop (eAppC (e2S dIx (eVar 0) (eC (.str "left"))) (e2 dDiv (eVar 3) (eN fMax (aCons (eC (.int 2)) (aCons (eVar 1) (aNil)))))) [some (.val (.ob 1)), some (.val (.int many)), some (.val (.int f)), some (.val (.int c))] (deckS l0 m (k + 1) r) = some ((.nx, [some (.val (.ob 1)), some (.val (.int many)), some (.val (.int f)), some (.val (.int c))]), deckS (l0 ++ [c / mx 2 many]) m (k + 1) r) := by
          rw [sDrop_ev, eAppC_ev]
          simp only [e2S_ev, e2_ev, eN_ev, aCons_ev, aNil_ev, vis_val, vis_nil, eVar_ev, eC_ev, List.getElem?_cons_zero, List.getElem?_cons_succ, Option.bind_some, e'', hlc, if_true, fMax_two, hd, ha]
        simp only [sIf_ev, tB_ev, e2_ev, vis_val, vis_nil, eVar_ev, eC_ev, List.getElem?_cons_zero, List.getElem?_cons_succ, Option.bind_some, hpow, hge, if_true]
        rw [sSeq_nx hdrop]
        simp only [sRet_ev, e2_ev, eN_ev, aCons_ev, aNil_ev, fz_val, fz_nil, eVar_ev, List.getElem?_cons_zero, List.getElem?_cons_succ, Option.bind_some, fInt_int, hm]
        rfl
      refine ⟨c % many, l0 ++ [c / mx 2 many], run (c % many) [some (.val (.ob 1)), some (.val (.int many)), some (.val (.int f)), some (.val (.int c))] _ ?_, Int.emod_nonneg _ (by omega), Int.emod_lt_of_pos _ h0, by simp⟩
      have gg : ∀ m2 m3 : SM, sIf (tB (e2S dNe (e2S dIx (eVar 0) (eC (.str "left"))) (eL (aNil)))) (sSeq (sSet 3 (ePop (e2S dIx (eVar 0) (eC (.str "left"))))) (sSeq (sIf (tB (e2 dGe (eVar 3) (e2 dPow (eC (.int 10)) (eC (.int 18))))) (sSeq (sDrop (eAppC (e2S dIx (eVar 0) (eC (.str "left"))) (e2 dDiv (eVar 3) (eN fMax (aCons (eC (.int 2)) (aCons (eVar 1) (aNil))))))) (sRet (e2 dMod (eN fInt (aCons (eVar 3) (aNil))) (eVar 1)))) (sNop)) m2)) m3 [some (.val (.ob 1)), some (.val (.int many)), some (.val (.int f)), none] (deckS (l0 ++ [c]) m (k + 1) r) = some ((.ret (.int (c % many)), [some (.val (.ob 1)), some (.val (.int many)), some (.val (.int f)), some (.val (.int c))]), deckS (l0 ++ [c / mx 2 many]) m (k + 1) r) := fun m2 m3 => by
        rw [ecell, sSeq_nx p3, sSeq_ev, g m2]
        rfl
      rw [sSeq_ev, gg]
      rfl
    · have hge : dGe (.int c) (.int (10 ^ 18)) = some (.bl false) := by rw [dGe_int, decide_eq_false hc]
      have hm := modP (i := c) (j := 2147483629) (by decide)
      have g : ∀ m1 : SM, sIf (tB (e2 dGe (eVar 3) (e2 dPow (eC (.int 10)) (eC (.int 18))))) m1 (sNop) [some (.val (.ob 1)), some (.val (.int many)), some (.val (.int f)), some (.val (.int c))] (deckS l0 m (k + 1) r) = some ((.nx, [some (.val (.ob 1)), some (.val (.int many)), some (.val (.int f)), some (.val (.int c))]), deckS l0 m (k + 1) r) := fun m1 => by
        simp only [sIf_ev, tB_ev, e2_ev, vis_val, vis_nil, eVar_ev, eC_ev, List.getElem?_cons_zero, List.getElem?_cons_succ, Option.bind_some, hpow, hge, sNop_ev]
        rfl
      have g2 : sSet 2 (e2 dAdd (eVar 2) (e2 dMod (eN fInt (aCons (eVar 3) (aNil))) (eC (.int 2147483629)))) [some (.val (.ob 1)), some (.val (.int many)), some (.val (.int f)), some (.val (.int c))] (deckS l0 m (k + 1) r) = some ((.nx, [some (.val (.ob 1)), some (.val (.int many)), some (.val (.int (f + c % 2147483629))), some (.val (.int c))]), deckS l0 m (k + 1) r) := by
        rw [sSet_ev]
        simp only [e2_ev, eN_ev, aCons_ev, aNil_ev, vis_val, vis_nil, eVar_ev, eC_ev, List.getElem?_cons_zero, List.getElem?_cons_succ, Option.bind_some, fInt_int, hm, dAdd_int]
        rfl
      obtain ⟨x, o, e5, a, b⟩ := tail_eq (l := l0) (m := m) (k := k + 1) (f := f + c % 2147483629) (r := r) (o := some (.val (.int c))) h0
      refine ⟨x, l0, run x o _ ?_, a, b, by simp⟩
      rw [sSeq_nx (ρ' := [some (.val (.ob 1)), some (.val (.int many)), some (.val (.int (f + c % 2147483629))), some (.val (.int c))]) (S' := deckS l0 m (k + 1) r) (by rw [ecell, sSeq_nx p3, sSeq_nx (g _), g2])]
      exact e5
end Wk
end
section
set_option Elab.async false
set_option linter.all false
set_option maxRecDepth 100000
set_option maxHeartbeats 800000
/-! P10: what the law draws. Own work. -/
namespace Wk
open PySem J
theorem sForGo_nil {T : Tg} {mb : SM} {ρ : LEnv} {S : Sto} : sForGo T mb [] ρ S = some ((.nx, ρ), S) := rfl
theorem deck_loop {S : Sto} (v0 : D) : ∀ (ns : List Int) (m : Int) (o : Option LV), ∃ m' o', sForGo (.nm 2) (sSet 1 (e2 dMod (eN fInt (aCons (e2 dAdd (e2 dAdd (e2 dMul (eVar 1) (eC (.int 69621))) (e2 dMod (eN fInt (aCons (eVar 2) (aNil))) (eC (.int 2147483629)))) (eC (.int 77))) (aNil))) (eC (.int 2147483587)))) (ns.map D.int) [some (.val v0), some (.val (.int m)), o] S = some ((.nx, [some (.val v0), some (.val (.int m')), o']), S)
  | [], m, o => ⟨m, o, rfl⟩
  | n :: ns, m, o => by
    obtain ⟨m', o', ih⟩ := deck_loop (S := S) v0 ns ((m * 69621 + n % 2147483629 + 77) % 2147483587) (some (.val (.int n)))
    refine ⟨m', o', ?_⟩
    have a : dMul (.int m) (.int 69621) = some (.int (m * 69621)) := mulR (by decide)
    have b := modP (i := n) (j := 2147483629) (by decide)
    have c := modP (i := m * 69621 + n % 2147483629 + 77) (j := 2147483587) (by decide)
    have e : sSet 1 (e2 dMod (eN fInt (aCons (e2 dAdd (e2 dAdd (e2 dMul (eVar 1) (eC (.int 69621))) (e2 dMod (eN fInt (aCons (eVar 2) (aNil))) (eC (.int 2147483629)))) (eC (.int 77))) (aNil))) (eC (.int 2147483587))) [some (.val v0), some (.val (.int m)), some (.val (.int n))] S = some ((.nx, [some (.val v0), some (.val (.int ((m * 69621 + n % 2147483629 + 77) % 2147483587))), some (.val (.int n))]), S) := by
      rw [sSet_ev]
      simp only [e2_ev, eN_ev, aCons_ev, aNil_ev, vis_val, vis_nil, eVar_ev, eC_ev, List.getElem?_cons_zero, List.getElem?_cons_succ, Option.bind_some, fInt_int, dAdd_int, a, b, c]
      rfl
    rw [List.map_cons]
    unfold sForGo
    simp only [asgT_nm, List.length_cons, List.length_nil, Nat.reduceAdd, Nat.reduceLT, if_true, Option.bind_some, List.set_cons_succ, List.set_cons_zero, e]
    exact ih
theorem m_deck_eq (ns : List Int) (hz : ns.length ≤ 63) : ∃ m, m__law_deck [.cl (ns.map D.int)] [] = some (.ob 1, deckS ns.reverse m 0 []) := by
  obtain ⟨m, o, hl⟩ := deck_loop (S := []) (.cl (ns.map D.int)) ns 14409979 none
  refine ⟨m, ?_⟩
  have ec : cutL (ns.map D.int) none (some 63) = ns.map D.int := by
    rw [show (63 : Int) = ((63 : Nat) : Int) from rfl, cut_take, List.take_of_length_le (by simpa using hz)]
  have e1 : dSlice (.cl (ns.map D.int)) none (some 63) = some (.lst (ns.map D.int)) := by
    show some (D.lst (cutL (ns.map D.int) none (some 63))) = _
    rw [ec]
  have e2 : fList [.lst (ns.map D.int)] = some (.lst (ns.map D.int)) := rfl
  have e3 : fRev (.lst (ns.map D.int)) = some (ns.reverse.map D.int) := by
    show some (ns.map D.int).reverse = _
    rw [List.map_reverse]
  have p : pureA (ns.reverse.map D.int) = true := by simp [pureD]
  simp [m__law_deck, runDef, b__law_deck, e1, hl, fz_cons, e2, e3, pureD, -List.map_reverse]
theorem m_pick_eq {xs : List D} {l : List Int} {m k : Int} {r : Sto} (hl : l.length ≤ 900) (h0 : xs ≠ []) (h1 : xs.length < 1000000) :
    ∃ i l', ∃ h : i < xs.length, m__law_pick [.ob 1, .lst xs] (deckS l m k r) = some (xs[i], deckS l' m (k + 1) r) ∧ l'.length ≤ l.length := by
  have hp : 0 < xs.length := List.length_pos_iff.mpr h0
  obtain ⟨x, l', e, a, b, c⟩ := m_draw_eq (l := l) (m := m) (k := k) (many := (xs.length : Nat)) (r := r) hl (by omega) (by omega)
  obtain ⟨i, rfl⟩ := Int.eq_ofNat_of_zero_le a
  have hi : i < xs.length := by omega
  refine ⟨i, l', hi, ?_, c⟩
  have e2 : L2.atI xs (i : Int) = some xs[i] := by rw [atI_nat, List.getElem?_eq_getElem hi]
  unfold m__law_pick runDef
  rw [if_pos (show [D.ob 1, D.lst xs].length = 2 from rfl)]
  have e3 : b__law_pick [some (.val (.ob 1)), some (.val (.lst xs))] (deckS l m k r) = some ((.ret xs[i], [some (.val (.ob 1)), some (.val (.lst xs))]), deckS l' m (k + 1) r) := by
    unfold b__law_pick
    rw [sRet_ev]
    simp only [e2S_ev, eF_ev, eN_ev, aCons_ev, aNil_ev, fz_val, fz_nil, eVar_ev, List.getElem?_cons_zero, List.getElem?_cons_succ, Option.bind_some, fLen_lst, e, dIx_lst, e2]
    rfl
  show ((b__law_pick [some (.val (.ob 1)), some (.val (.lst xs))] (deckS l m k r)).bind _) = _
  rw [e3]; rfl
/-- a comprehension that draws -/
theorem lc_draws {vs : List Nat} {T : Tg} {me : Env' → M D} {ρ : Env'} {m : Int} {r : Sto} (Q : D → Prop) : ∀ (xs : List D) (l : List Int) (k : Int), l.length ≤ 900 →
    (∀ d ∈ xs, ∀ (l : List Int) (k : Int), l.length ≤ 900 → ∃ z l' k', lcEl vs T tT me ρ d (deckS l m k r) = some (some z, deckS l' m k' r) ∧ Q z ∧ l'.length ≤ l.length) →
    ∃ zs l' k', lcGo (lcEl vs T tT me ρ) xs (deckS l m k r) = some (zs, deckS l' m k' r) ∧ zs.length = xs.length ∧ (∀ z ∈ zs, Q z) ∧ l'.length ≤ l.length
  | [], l, k, _, _ => ⟨[], l, k, rfl, rfl, fun z hz => absurd hz List.not_mem_nil, Nat.le_refl _⟩
  | d :: xs, l, k, hl, h => by
    obtain ⟨z, l1, k1, e1, q1, b1⟩ := h d List.mem_cons_self l k hl
    obtain ⟨zs, l2, k2, e2, n2, q2, b2⟩ := lc_draws Q xs l1 k1 (by omega) fun x hx => h x (List.mem_cons_of_mem _ hx)
    refine ⟨z :: zs, l2, k2, ?_, by simp [n2], fun y hy => ?_, by omega⟩
    · rw [lcGo, e1]
      show ((lcGo (lcEl vs T tT me ρ) xs (deckS l1 m k1 r)).bind _) = _
      rw [e2]
      rfl
    · rcases List.mem_cons.mp hy with q | q
      · rw [q]; exact q1
      · exact q2 y q
theorem ints_of : ∀ {zs : List D} {P : Int → Prop}, (∀ z ∈ zs, ∃ i, z = .int i ∧ P i) → ∃ is : List Int, zs = is.map D.int ∧ (∀ i ∈ is, P i)
  | [], _, _ => ⟨[], rfl, fun i hi => absurd hi List.not_mem_nil⟩
  | z :: zs, P, h => by
    obtain ⟨i, rfl, hi⟩ := h z List.mem_cons_self
    obtain ⟨is, rfl, his⟩ := ints_of (P := P) fun y hy => h y (List.mem_cons_of_mem _ hy)
    refine ⟨i :: is, rfl, fun j hj => ?_⟩
    rcases List.mem_cons.mp hj with q | q
    · rw [q]; exact hi
    · exact his j q
theorem intss_of : ∀ {zs : List D} {P : List Int → Prop}, (∀ z ∈ zs, ∃ i, z = dI i ∧ P i) → ∃ is : List (List Int), zs = is.map dI ∧ (∀ i ∈ is, P i)
  | [], _, _ => ⟨[], rfl, fun i hi => absurd hi List.not_mem_nil⟩
  | z :: zs, P, h => by
    obtain ⟨i, rfl, hi⟩ := h z List.mem_cons_self
    obtain ⟨is, rfl, his⟩ := intss_of (P := P) fun y hy => h y (List.mem_cons_of_mem _ hy)
    refine ⟨i :: is, rfl, fun j hj => ?_⟩
    rcases List.mem_cons.mp hj with q | q
    · rw [q]; exact hi
    · exact his j q
theorem m_vectors_eq {n d : Nat} {l : List Int} {m k : Int} {r : Sto} (hl : l.length ≤ 900) (hn : n ≤ 1000) (hd : d ≤ 1000) :
    ∃ M l' k', m__law_vectors [.ob 1, .int (n : Nat), .int (d : Nat)] (deckS l m k r) = some (dII M, deckS l' m k' r) ∧ M.length = n ∧ (∀ v ∈ M, Vn 3 d v) ∧ l'.length ≤ l.length := by
  have r1 := rgD_nat (n := d) (by omega)
  have r2 := rgD_nat (n := n) (by omega)
  -- a vector
  have inner : ∀ (o4 : Option D) (l : List Int) (k : Int), l.length ≤ 900 → ∃ v l' k', (fLc (iRange (aCons (eVar 2) (aNil))) [3] (.nm 3) (tT) (e2 dSub (eF m__law_draw (aCons (eVar 0) (aCons (eC (.int 7)) (aNil)))) (eC (.int 3)))) [some (.ob 1), some (.int (n : Nat)), some (.int (d : Nat)), none, o4] (deckS l m k r) = some (v.map D.int, deckS l' m k' r) ∧ Vn 3 d v ∧ l'.length ≤ l.length := fun o4 l k hl => by
    obtain ⟨zs, l', k', e, hn2, q, b⟩ := lc_draws (vs := [3]) (T := .nm 3) (me := (e2 dSub (eF m__law_draw (aCons (eVar 0) (aCons (eC (.int 7)) (aNil)))) (eC (.int 3)))) (ρ := [some (.ob 1), some (.int (n : Nat)), some (.int (d : Nat)), none, o4]) (m := m) (r := r) (fun z => ∃ i, z = .int i ∧ (-3 ≤ i ∧ i ≤ 3)) ((List.range d).map fun i => .int (i : Nat)) l k hl (fun x hx l k hl => by
        obtain ⟨y, l', e, a, b, c⟩ := m_draw_eq (l := l) (m := m) (k := k) (many := 7) (r := r) hl (by decide) (by decide)
        refine ⟨.int (y - 3), l', k + 1, ?_, ⟨y - 3, rfl, by omega, by omega⟩, c⟩
        rw [lcEl_tT]
        simp only [wipeE_cons, wipeE_nil, List.set_cons_succ, List.set_cons_zero, asgT_nm, List.length_cons, List.length_nil, Nat.reduceAdd, Nat.reduceLT, if_true, Option.bind_some, e2_ev, eF_ev, aCons_ev, aNil_ev, eVar_ev, eC_ev, List.getElem?_cons_zero, id_eq, e, dSub_int])
    obtain ⟨is, rfl, hi⟩ := ints_of (P := fun i => -3 ≤ i ∧ i ≤ 3) q
    refine ⟨is, l', k', ?_, ⟨by simpa using hn2, hi⟩, b⟩
    rw [fLc_ev]
    simp only [iRange_ev, aCons_ev, aNil_ev, eVar_ev, List.getElem?_cons_zero, List.getElem?_cons_succ, Option.bind_some, r1]
    exact e
  obtain ⟨zs, l', k', e, hn2, q, b⟩ := lc_draws (vs := [4]) (T := .nm 4) (me := (eN fTuple (aCons (eL (fLc (iRange (aCons (eVar 2) (aNil))) [3] (.nm 3) (tT) (e2 dSub (eF m__law_draw (aCons (eVar 0) (aCons (eC (.int 7)) (aNil)))) (eC (.int 3))))) (aNil)))) (ρ := [some (.ob 1), some (.int (n : Nat)), some (.int (d : Nat)), none, none]) (m := m) (r := r) (fun z => ∃ v, z = dI v ∧ Vn 3 d v) ((List.range n).map fun i => .int (i : Nat)) l k hl (fun x hx l k hl => by
    obtain ⟨v, l', k', e, a, c⟩ := inner (some x) l k hl
    refine ⟨dI v, l', k', ?_, ⟨v, rfl, a⟩, c⟩
    rw [lcEl_tT]
    simp only [wipeE_cons, wipeE_nil, List.set_cons_succ, List.set_cons_zero, asgT_nm, List.length_cons, List.length_nil, Nat.reduceAdd, Nat.reduceLT, if_true, Option.bind_some, eN_ev, eL_ev, aCons_ev, aNil_ev, id_eq]
    rw [e]
    simp only [Option.bind_some, fTuple_lst])
  obtain ⟨M, rfl, hM⟩ := intss_of (P := fun v => Vn 3 d v) q
  refine ⟨M, l', k', ?_, by simpa using hn2, hM, b⟩
  have eb : b__law_vectors [some (.val (.ob 1)), some (.val (.int (n : Nat))), some (.val (.int (d : Nat))), none, none] (deckS l m k r) = some ((.ret (dII M), [some (.val (.ob 1)), some (.val (.int (n : Nat))), some (.val (.int (d : Nat))), none, none]), deckS l' m k' r) := by
    unfold b__law_vectors
    rw [sRet_ev]
    simp only [eN_ev, eL_ev, aCons_ev, aNil_ev, fz_val, fz_nil, fz_none]
    rw [fLc_ev]
    simp only [iRange_ev, aCons_ev, aNil_ev, eVar_ev, List.getElem?_cons_zero, List.getElem?_cons_succ, Option.bind_some, r2]
    rw [e]
    rfl
  unfold m__law_vectors runDef
  rw [if_pos (show [D.ob 1, D.int (n : Nat), D.int (d : Nat)].length = 3 from rfl)]
  show ((b__law_vectors [some (.val (.ob 1)), some (.val (.int (n : Nat))), some (.val (.int (d : Nat))), none, none] (deckS l m k r)).bind _) = _
  rw [eb]; rfl
end Wk
end
section
set_option Elab.async false
set_option linter.all false
set_option maxRecDepth 100000
set_option maxHeartbeats 800000
/-! P11: drawn models are valid. Own work. -/
namespace Wk
open PySem J
theorem lays_of : ∀ {zs : List D} {P : Lay → Prop}, (∀ z ∈ zs, ∃ i, z = dLay i ∧ P i) → ∃ is : List Lay, zs = is.map dLay ∧ (∀ i ∈ is, P i)
  | [], _, _ => ⟨[], rfl, fun i hi => absurd hi List.not_mem_nil⟩
  | z :: zs, P, h => by
    obtain ⟨i, rfl, hi⟩ := h z List.mem_cons_self
    obtain ⟨is, rfl, his⟩ := lays_of (P := P) fun y hy => h y (List.mem_cons_of_mem _ hy)
    refine ⟨i :: is, rfl, fun j hj => ?_⟩
    rcases List.mem_cons.mp hj with q | q
    · rw [q]; exact hi
    · exact his j q
/-- one layer, drawn -/
theorem draw_layer {d : Nat} {m : Int} {r : Sto} {a b c e f g h : Option D} (hd : d ≤ 1000) : ∀ (l : List Int) (k : Int), l.length ≤ 900 → ∃ y l' k', (fLc (iRange (aCons (eC (.int 4)) (aNil))) [5] (.nm 5) (tT) (eF m__law_vectors (aCons (eVar 0) (aCons (eVar 3) (aCons (eVar 3) (aNil)))))) [some (.ob 1), a, b, some (.int (d : Nat)), c, none, e, f, g] (deckS l m k r) = some ([dII y.q, dII y.k, dII y.v, dII y.m], deckS l' m k' r) ∧ LayOk d y ∧ l'.length ≤ l.length := fun l k hl => by
  obtain ⟨M1, l1, k1, e1, n1, q1, b1⟩ := m_vectors_eq (n := d) (d := d) (l := l) (m := m) (k := k) (r := r) hl hd hd
  obtain ⟨M2, l2, k2, e2, n2, q2, b2⟩ := m_vectors_eq (n := d) (d := d) (l := l1) (m := m) (k := k1) (r := r) (by omega) hd hd
  obtain ⟨M3, l3, k3, e3, n3, q3, b3⟩ := m_vectors_eq (n := d) (d := d) (l := l2) (m := m) (k := k2) (r := r) (by omega) hd hd
  obtain ⟨M4, l4, k4, e4, n4, q4, b4⟩ := m_vectors_eq (n := d) (d := d) (l := l3) (m := m) (k := k3) (r := r) (by omega) hd hd
  refine ⟨⟨M1, M2, M3, M4⟩, l4, k4, ?_, ⟨⟨n1, q1⟩, ⟨n2, q2⟩, ⟨n3, q3⟩, ⟨n4, q4⟩⟩, by omega⟩
  have r4 : rgD [.int 4] = some [.int 0, .int 1, .int 2, .int 3] := by
    rw [show (4 : Int) = ((4 : Nat) : Int) from rfl, rgD_nat (by decide)]; rfl
  have el : ∀ (x : D) (S S' : Sto) (M : List (List Int)), m__law_vectors [.ob 1, .int (d : Nat), .int (d : Nat)] S = some (dII M, S') → lcEl [5] (.nm 5) tT (eF m__law_vectors (aCons (eVar 0) (aCons (eVar 3) (aCons (eVar 3) (aNil))))) [some (.ob 1), a, b, some (.int (d : Nat)), c, none, e, f, g] x S = some (some (dII M), S') := fun x S S' M hh => by
    rw [lcEl_tT]
    simp only [wipeE_cons, wipeE_nil, List.set_cons_succ, List.set_cons_zero, asgT_nm, List.length_cons, List.length_nil, Nat.reduceAdd, Nat.reduceLT, if_true, Option.bind_some, eF_ev, aCons_ev, aNil_ev, eVar_ev, List.getElem?_cons_zero, List.getElem?_cons_succ, id_eq, hh]
  rw [fLc_ev]
  simp only [iRange_ev, aCons_ev, aNil_ev, eC_ev, Option.bind_some, r4, lcGo, el _ _ _ _ e1, el _ _ _ _ e2, el _ _ _ _ e3, el _ _ _ _ e4, oc]
theorem lcEl_tupL {f : Env' → M (List D)} {vs : List Nat} {T : Tg} {ρ ρ1 : Env'} {x : D} {S S' : Sto} {ds : List D} (h1 : asgT id T x (wipeE ρ vs) = some ρ1) (h2 : f ρ1 S = some (ds, S')) : lcEl vs T tT (eN fTuple (aCons (eL f) aNil)) ρ x S = some (some (.tup ds), S') := by
  rw [lcEl_tT, h1, Option.bind_some]
  simp only [eN_ev, eL_ev, aCons_ev, aNil_ev, h2, Option.bind_some, fTuple_lst]
/-- an element of the layers' list -/
theorem draw_layerE {d : Nat} {m : Int} {r : Sto} {a b : Option D} (hd : d ≤ 1000) (x : D) (l : List Int) (k : Int) (hl : l.length ≤ 900) : ∃ z l' k', lcEl [6] (.nm 6) tT (eN fTuple (aCons (eL (fLc (iRange (aCons (eC (.int 4)) (aNil))) [5] (.nm 5) (tT) (eF m__law_vectors (aCons (eVar 0) (aCons (eVar 3) (aCons (eVar 3) (aNil))))))) (aNil))) [some (.ob 1), a, b, some (.int (d : Nat)), none, none, none, none, none] x (deckS l m k r) = some (some z, deckS l' m k' r) ∧ (∃ v, z = dLay v ∧ LayOk d v) ∧ l'.length ≤ l.length := by
  obtain ⟨v, l', k', e, q, c⟩ := draw_layer (d := d) (m := m) (r := r) (a := a) (b := b) (c := none) (e := some x) (f := none) (g := none) (h := none) hd l k hl
  exact ⟨dLay v, l', k', lcEl_tupL rfl e, ⟨v, rfl, q⟩, c⟩
theorem run_ret {n k : Nat} {b : SM} {ds : List D} {S S' : Sto} {d : D} {o : LEnv} (hl : ds.length = k) (h : b (ds.map (fun d => some (.val d)) ++ List.replicate (n - k) none) S = some ((.ret d, o), S')) : runDef n k b ds S = some (d, S') := by
  unfold runDef
  rw [if_pos hl, h]; rfl
theorem m_net_eq {many : Nat} {l : List Int} {m k : Int} {r : Sto} (hl : l.length ≤ 900) (hm : 2 ≤ many ∧ many ≤ 6) :
    ∃ N l' k', m__law_net [.ob 1, .int (many : Nat), .int 2] (deckS l m k r) = some (dNet N, deckS l' m k' r) ∧ NetOk N ∧ N.many = many ∧ l'.length ≤ l.length := by
  obtain ⟨x, l1, e1, a1, b1, c1⟩ := m_draw_eq (l := l) (m := m) (k := k) (many := 2) (r := r) hl (by decide) (by decide)
  obtain ⟨d0, rfl⟩ := Int.eq_ofNat_of_zero_le a1
  have hd : d0 + 1 ≤ 2 := by omega
  generalize hdd : d0 + 1 = d at hd
  have hd1 : 1 ≤ d := by omega
  have ed : (1 : Int) + (d0 : Nat) = (d : Nat) := by omega
  obtain ⟨y, l2, e2, a2, b2, c2⟩ := m_draw_eq (l := l1) (m := m) (k := k + 1) (many := 2) (r := r) (by omega) (by decide) (by decide)
  obtain ⟨t0, rfl⟩ := Int.eq_ofNat_of_zero_le a2
  have et : (1 : Int) + (t0 : Nat) = ((t0 + 1 : Nat) : Int) := by omega
  have rt := rgD_nat (n := t0 + 1) (by omega)
  obtain ⟨zs, l3, k3, e3, n3, q3, c3⟩ := lc_draws (vs := [6]) (T := .nm 6) (me := (eN fTuple (aCons (eL (fLc (iRange (aCons (eC (.int 4)) (aNil))) [5] (.nm 5) (tT) (eF m__law_vectors (aCons (eVar 0) (aCons (eVar 3) (aCons (eVar 3) (aNil))))))) (aNil)))) (ρ := [some (.ob 1), some (.int (many : Nat)), some (.int 2), some (.int (d : Nat)), none, none, none, none, none]) (m := m) (r := r) (fun z => ∃ v, z = dLay v ∧ LayOk d v) ((List.range (t0 + 1)).map fun i => .int (i : Nat)) l2 (k + 1 + 1) (by omega) (fun x hx l k hl => draw_layerE (by omega) x l k hl)
  obtain ⟨ls, rfl, hls⟩ := lays_of (P := fun v => LayOk d v) q3
  obtain ⟨M4, l4, k4, e4, n4, q4, c4⟩ := m_vectors_eq (n := many) (d := d) (l := l3) (m := m) (k := k3) (r := r) (by omega) (by omega) (by omega)
  obtain ⟨z, l5, e5, a5, b5, c5⟩ := m_draw_eq (l := l4) (m := m) (k := k4) (many := 3) (r := r) (by omega) (by decide) (by decide)
  obtain ⟨p0, rfl⟩ := Int.eq_ofNat_of_zero_le a5
  have ep : (1 : Int) + (p0 : Nat) = ((p0 + 1 : Nat) : Int) := by omega
  obtain ⟨M6, l6, k6, e6, n6, q6, c6⟩ := m_vectors_eq (n := p0 + 1) (d := d) (l := l5) (m := m) (k := k4 + 1) (r := r) (by omega) (by omega) (by omega)
  obtain ⟨M7, l7, k7, e7, n7, q7, c7⟩ := m_vectors_eq (n := many) (d := d) (l := l6) (m := m) (k := k6) (r := r) (by omega) (by omega) (by omega)
  have hlsl : ls.length = t0 + 1 := by simpa using n3
  refine ⟨⟨many, d, M4, M6, ls, M7⟩, l7, k7, ?_, ⟨hm, ⟨hd1, hd⟩, .inr trivial, q4, n4, q6, by simp only; omega, hls, by simp only; omega, q7, n7⟩, rfl, by omega⟩
  have s3 : sSet 3 (J.e2 dAdd (eC (.int 1)) (eF m__law_draw (aCons (eVar 0) (aCons (eC (.int 2)) (aNil))))) [some (.val (.ob 1)), some (.val (.int (many : Nat))), some (.val (.int 2)), none, none, none, none, none, none] (deckS l m k r) = some ((.nx, [some (.val (.ob 1)), some (.val (.int (many : Nat))), some (.val (.int 2)), some (.val (.int (d : Nat))), none, none, none, none, none]), deckS l1 m (k + 1) r) := by
    rw [sSet_ev]
    simp only [e2_ev, eF_ev, aCons_ev, aNil_ev, vis_val, eVar_ev, eC_ev, List.getElem?_cons_zero, Option.bind_some, e1, dAdd_int, ed]
    rfl
  generalize hr0 : (m__law_vectors : List D → M D) = mv at *
  generalize hr1 : (m__law_draw : List D → M D) = dr at *
  have s4 : sSet 4 (eN fTuple (aCons (eL (fLc (iRange (aCons (J.e2 dAdd (eC (.int 1)) (eF dr (aCons (eVar 0) (aCons (eVar 2) (aNil))))) (aNil))) [6] (.nm 6) (tT) (eN fTuple (aCons (eL (fLc (iRange (aCons (eC (.int 4)) (aNil))) [5] (.nm 5) (tT) (eF mv (aCons (eVar 0) (aCons (eVar 3) (aCons (eVar 3) (aNil))))))) (aNil))))) (aNil))) [some (.val (.ob 1)), some (.val (.int (many : Nat))), some (.val (.int 2)), some (.val (.int (d : Nat))), none, none, none, none, none] (deckS l1 m (k + 1) r) = some ((.nx, [some (.val (.ob 1)), some (.val (.int (many : Nat))), some (.val (.int 2)), some (.val (.int (d : Nat))), some (.val (.tup (ls.map dLay))), none, none, none, none]), deckS l3 m k3 r) := by
    rw [sSet_ev]
    simp only [eN_ev, eL_ev, aCons_ev, aNil_ev, vis_val, vis_none, vis_nil]
    rw [fLc_ev]
    simp only [iRange_ev, J.e2_ev, eF_ev, eC_ev, aCons_ev, aNil_ev, eVar_ev, List.getElem?_cons_zero, List.getElem?_cons_succ, Option.bind_some, e2]
    rw [dAdd_int]
    simp only [Option.bind_some]
    rw [et, rt]
    simp only [Option.bind_some]
    rw [e3]
    rfl
  have s7 : sPar 7 8 (eF mv (aCons (eVar 0) (aCons (eVar 1) (aCons (eVar 3) (aNil))))) (eF mv (aCons (eVar 0) (aCons (J.e2 dAdd (eC (.int 1)) (eF dr (aCons (eVar 0) (aCons (eC (.int 3)) (aNil))))) (aCons (eVar 3) (aNil))))) [some (.val (.ob 1)), some (.val (.int (many : Nat))), some (.val (.int 2)), some (.val (.int (d : Nat))), some (.val (.tup (ls.map dLay))), none, none, none, none] (deckS l3 m k3 r) = some ((.nx, [some (.val (.ob 1)), some (.val (.int (many : Nat))), some (.val (.int 2)), some (.val (.int (d : Nat))), some (.val (.tup (ls.map dLay))), none, none, some (.val (dII M4)), some (.val (dII M6))]), deckS l6 m k6 r) := by
    rw [sPar_ev]
    simp only [J.e2_ev, eF_ev, eC_ev, aCons_ev, aNil_ev, vis_val, vis_none, vis_nil, eVar_ev, List.getElem?_cons_zero, List.getElem?_cons_succ, Option.bind_some, e4, e5]
    rw [dAdd_int]
    simp only [Option.bind_some]
    rw [ep, e6]
    rfl
  have s9 : (sRet (eTup (aCons (eC (.str "net")) (aCons (eVar 1) (aCons (eVar 3) (aCons (eVar 7) (aCons (eVar 8) (aCons (eVar 4) (aCons (eF mv (aCons (eVar 0) (aCons (eVar 1) (aCons (eVar 3) (aNil))))) (aNil)))))))))) [some (.val (.ob 1)), some (.val (.int (many : Nat))), some (.val (.int 2)), some (.val (.int (d : Nat))), some (.val (.tup (ls.map dLay))), none, none, some (.val (dII M4)), some (.val (dII M6))] (deckS l6 m k6 r) = some ((.ret (dNet ⟨many, d, M4, M6, ls, M7⟩), kill [some (.val (.ob 1)), some (.val (.int (many : Nat))), some (.val (.int 2)), some (.val (.int (d : Nat))), some (.val (.tup (ls.map dLay))), none, none, some (.val (dII M4)), some (.val (dII M6))]), deckS l7 m k7 r) := by
    rw [sRet_ev]
    simp only [eTup_ev, J.e2_ev, eF_ev, eC_ev, aCons_ev, aNil_ev, fz_val, fz_none, fz_nil, eVar_ev, List.getElem?_cons_zero, List.getElem?_cons_succ, Option.bind_some, e7]
  subst hr0 hr1
  refine run_ret rfl ?_ (o := kill [some (.val (.ob 1)), some (.val (.int (many : Nat))), some (.val (.int 2)), some (.val (.int (d : Nat))), some (.val (.tup (ls.map dLay))), none, none, some (.val (dII M4)), some (.val (dII M6))])
  unfold b__law_net
  show (sSeq _ _) [some (.val (.ob 1)), some (.val (.int (many : Nat))), some (.val (.int 2)), none, none, none, none, none, none] (deckS l m k r) = _
  rw [sSeq_nx s3, sSeq_nx s4, sSeq_nx s7, s9]
end Wk
end
section
set_option Elab.async false
set_option linter.all false
set_option maxRecDepth 100000
set_option maxHeartbeats 800000
/-! P12: numbers and words as texts, there and back. Own work. -/
namespace Wk
open PySem J
theorem tOr_f {a b : Env' → M Bool} {ρ : Env'} {S S1 : Sto} {q : Option (Bool × Sto)} (h1 : a ρ S = some (false, S1)) (h2 : b ρ S1 = q) : tOr a b ρ S = q := by
  rw [tOr_ev, h1]; exact h2
theorem sIf_f {t : Env' → M Bool} {m1 m2 : SM} {ρ : LEnv} {S S1 : Sto} {q : Option ((Fl × LEnv) × Sto)} (h1 : t (vis ρ) S = some (false, S1)) (h2 : m2 ρ S1 = q) : sIf t m1 m2 ρ S = q := by
  rw [sIf_ev, h1]; exact h2
theorem sIf_t {t : Env' → M Bool} {m1 m2 : SM} {ρ : LEnv} {S S1 : Sto} {q : Option ((Fl × LEnv) × Sto)} (h1 : t (vis ρ) S = some (true, S1)) (h2 : m1 ρ S1 = q) : sIf t m1 m2 ρ S = q := by
  rw [sIf_ev, h1]; exact h2
/-! ### numbers -/
abbrev strI (i : Int) : Str := Str.ofString (toString i)
def digL (i : Int) : List Nat := if 0 ≤ i then TL.numL i.toNat else 45 :: TL.numL i.natAbs
theorem tl_strI : ∀ i : Int, TL.tl (strI i) = digL i
  | .ofNat n => by
    have e : TL.tl (strI (n : Int)) = TL.numL n := TL.tl_num n
    show TL.tl (strI (n : Int)) = _
    rw [e]; simp [digL]
  | .negSucc n => by
    unfold strI
    rw [TL.tl_ofString]
    have e : toString (Int.negSucc n) = "-" ++ Nat.repr (n + 1) := rfl
    rw [e, String.toList_append, Nat.toList_repr, List.map_append]
    have h : ¬ (0 ≤ Int.negSucc n) := by omega
    simp [digL, h, TL.numL]
/-- numbers of at most 600 signs -/
def Num (i : Int) : Prop := i.natAbs < 10 ^ 500
theorem Num.small {i : Int} (h : -1000 ≤ i ∧ i ≤ 1000) : Num i := by
  have : i.natAbs < 1001 := by omega
  exact Nat.lt_of_lt_of_le this (by decide +kernel)
theorem dig_len {i : Int} (h : Num i) : (digL i).length ≤ 501 := by
  unfold digL
  split
  · exact Nat.le_trans (TL.numL_len (k := 500) (by decide) (by unfold Num at h; omega)) (by decide)
  · rw [List.length_cons]
    have := TL.numL_len (n := i.natAbs) (k := 500) (by decide) h
    omega
theorem dig_len3 {i : Int} (h : -100 ≤ i ∧ i ≤ 100) : (digL i).length ≤ 4 := by
  unfold digL
  split
  · exact Nat.le_trans (TL.numL_len (k := 3) (by decide) (by omega)) (by decide)
  · rw [List.length_cons]
    have := TL.numL_len (n := i.natAbs) (k := 3) (by decide) (by omega)
    omega
theorem dig_free {i : Int} {s : Nat} (h : (s < 48 ∨ 57 < s) ∧ s ≠ 45) : s ∉ digL i := by
  unfold digL
  split
  · exact TL.numL_free h.1
  · intro hm
    rcases List.mem_cons.mp hm with e | hm
    · exact h.2 e
    · exact TL.numL_free h.1 hm
theorem len_strI (i : Int) : (strI i).length = (digL i).length := by rw [TL.len_tl, tl_strI]
theorem tl_cut (z : Str) (lo hi : Option Int) : TL.tl (L2.cutS z lo hi) = cutL (TL.tl z) lo hi := by
  show ((z.cps.toList.drop (HT.sIx z.length 0 lo)).take (HT.sIx z.length z.length hi - HT.sIx z.length 0 lo)) = _
  rw [TL.len_tl z]; rfl
theorem numL_head {n : Nat} : ∃ c cs, TL.numL n = c :: cs ∧ (c = 48 → n = 0) := by
  induction n using Nat.strongRecOn with
  | _ n ih =>
    by_cases h : n < 10
    · rw [TL.numL_lt h]
      exact ⟨_, _, rfl, fun e => by omega⟩
    · rw [TL.numL_step (by omega)]
      obtain ⟨c, cs, e, q⟩ := ih (n / 10) (by omega)
      rw [e]
      exact ⟨c, cs ++ [48 + n % 10], rfl, fun e => by have := q e; omega⟩
theorem digits10 : TL.tl ("0123456789" : Str) = [48, 49, 50, 51, 52, 53, 54, 55, 56, 57] := by decide +kernel
theorem tl_minus : TL.tl ("-" : Str) = [45] := by decide +kernel
theorem tl_zero : TL.tl ("0" : Str) = [48] := by decide +kernel
theorem tl_nil : TL.tl ("" : Str) = [] := by decide +kernel
theorem tl_sp : TL.tl (" " : Str) = [32] := by decide +kernel
theorem tl_nl : TL.tl ("\n" : Str) = [10] := by decide +kernel
theorem tl_co : TL.tl (":" : Str) = [58] := by decide +kernel
theorem str_eq_iff {x y : Str} : x = y ↔ TL.tl x = TL.tl y := ⟨fun h => by rw [h], TL.ext_tl⟩
theorem m_integer_of_ok {x dg : Str} {c : Nat} {cs : List Nat} {v : Int} {S : Sto} (h1 : TL.tl dg = c :: cs) (h2 : NumText.AllDigits (c :: cs)) (h3 : x.length ≤ 640)
    (h4 : (L2.cutS x none (some 1) = "-" ∧ dg = L2.cutS x (some 1) none) ∨ (L2.cutS x none (some 1) ≠ "-" ∧ dg = x)) (h5 : c = 48 → x = "0") (h6 : intText? x = some v) : m_integer_of [.str x] S = some (.int v, S) := by
  have z : x.length ≤ sizeLine := line_small (by omega)
  have zd : dg.length ≤ sizeLine := by
    rcases h4 with ⟨_, rfl⟩ | ⟨_, rfl⟩
    · exact Nat.le_trans (L2.cutS_length _ _ _) z
    · exact z
  have s1 : sSet 1 (eIf (tB (e2S dEq (e3 dSlice (eVar 0) (oNone) (oSome (eC (.int 1)))) (eC (.str "-")))) (e3 dSlice (eVar 0) (oSome (eC (.int 1))) (oNone)) (eVar 0)) [some (.val (.str x)), none, none] S = some ((.nx, [some (.val (.str x)), some (.val (.str dg)), none]), S) := by
    rcases h4 with ⟨a, b⟩ | ⟨a, b⟩
    · simp [dSlice, z, a, b]
    · simp [dSlice, z, a, b]
  have l : lcGo (lcEl [2] (.nm 2) tT (e2 dIn (eVar 2) (eC (.str "0123456789"))) [some (.str x), some (.str dg), none]) (chars dg) S = some ((TL.tl dg).map fun _ => D.bl true, S) :=
    lcGo_map (fun c : Nat => D.str ⟨#[c]⟩) (fun _ => D.bl true) (TL.tl dg) fun e he => lcEl_one rfl (by
      rw [h1] at he
      have hr := h2 e he
      have hm : e ∈ TL.tl ("0123456789" : Str) := by
        rw [digits10]
        simp only [List.mem_cons, List.not_mem_nil, or_false]
        omega
      have : dInB (.str ⟨#[e]⟩) (.str "0123456789") = some true := by
        show (some (decide (e ∈ TL.tl ("0123456789" : Str)))) = _
        rw [decide_eq_true hm]
      simp [dIn, this])
  have s2 : (fAll [.lst ((TL.tl dg).map fun _ => D.bl true)]) = some (.bl true) := all_true _
  have ix : dIx S (.str dg) (.int 0) = some (.str ⟨#[c]⟩) := by
    show (if dg.length ≤ sizeLine then (L2.atI (TL.tl dg) 0).map (fun c => D.str ⟨#[c]⟩) else none) = _
    rw [if_pos zd, h1, atI_0]; rfl
  have n0 : ¬ (dg = "") := fun e => by rw [e, tl_nil] at h1; cases h1
  have t3 : (tAnd (tB (e2S dEq (e2S dIx (eVar 1) (eC (.int 0))) (eC (.str "0")))) (tB (e2S dNe (eVar 0) (eC (.str "0"))))) [some (.str x), some (.str dg), none] S = some (false, S) := by
    by_cases hc : c = 48
    · have := h5 hc
      subst this
      simp [ix]
    · have nc : ¬ ((⟨#[c]⟩ : Str) = "0") := fun e => hc (by
        have := congrArg TL.tl e
        rw [tl_zero] at this
        injection this)
      simp [ix, nc]
  refine run_ret (o := kill [some (.val (.str x)), some (.val (.str dg)), none]) rfl ?_
  show (sSeq _ _) [some (.val (.str x)), none, none] S = _
  rw [sSeq_nx s1]
  have s3 : ∀ m1 : SM, sIf (tOr (tB (e2S dEq (eVar 1) (eC (.str "")))) (tOr (tNot (tB (eN fAll (aCons (eL (fLc (iSeq (eVar 1)) [2] (.nm 2) (tT) (e2 dIn (eVar 2) (eC (.str "0123456789"))))) (aNil))))) (tAnd (tB (e2S dEq (e2S dIx (eVar 1) (eC (.int 0))) (eC (.str "0")))) (tB (e2S dNe (eVar 0) (eC (.str "0"))))))) m1 (sNop) [some (.val (.str x)), some (.val (.str dg)), none] S = some ((.nx, [some (.val (.str x)), some (.val (.str dg)), none]), S) := fun m1 => by
    have it : itemsD (.str dg) = some (chars dg) := by show (if dg.length ≤ sizeLine then some (chars dg) else none) = _; rw [if_pos zd]
    refine sIf_f (tOr_f (S1 := S) ?_ (tOr_f (S1 := S) ?_ t3)) rfl
    · simp [n0]
    · simp [it, l, s2, -fAll_lst]
  rw [sSeq_nx (s3 _)]
  have s4 : fInt [.str x] = some (.int v) := by
    show (if x.length ≤ 640 then (PySem.intText? x).map D.int else none) = _
    rw [if_pos h3, h6]; rfl
  simp [s4]
theorem m_integer_of_eq {i : Int} {S : Sto} (h : Num i) : m_integer_of [.str (strI i)] S = some (.int i, S) := by
  have hl : (strI i).length ≤ 640 := by rw [len_strI]; have := dig_len h; omega
  by_cases hi : 0 ≤ i
  · obtain ⟨n, rfl⟩ := Int.eq_ofNat_of_zero_le hi
    obtain ⟨c, cs, e, q⟩ := numL_head (n := n)
    have et : TL.tl (strI (n : Int)) = c :: cs := by rw [tl_strI, ← e]; simp [digL]
    have hd := TL.numL_digits n
    rw [e] at hd
    refine m_integer_of_ok (dg := strI (n : Int)) et hd hl (.inr ⟨fun z => ?_, rfl⟩) (fun z => ?_) ?_
    · have := congrArg TL.tl z
      rw [tl_cut, et, tl_minus, show (1 : Int) = ((1 : Nat) : Int) from rfl, cut_take] at this
      have hc := hd c List.mem_cons_self
      simp at this
      omega
    · rw [q z]; decide +kernel
    · exact TL.int_num (by have := dig_len h; simp [digL] at this; omega)
  · have hn : i = -((i.natAbs : Nat) : Int) := by omega
    have h0 : i.natAbs ≠ 0 := by omega
    have ed : digL i = 45 :: TL.numL i.natAbs := by unfold digL; rw [if_neg hi]
    obtain ⟨c, cs, e, q⟩ := numL_head (n := i.natAbs)
    have et : TL.tl (strI i) = 45 :: c :: cs := by rw [tl_strI, ed, e]
    have hd := TL.numL_digits i.natAbs
    rw [e] at hd
    refine m_integer_of_ok (dg := L2.cutS (strI i) (some 1) none) (c := c) (cs := cs) ?_ hd hl (.inl ⟨?_, rfl⟩) (fun z => absurd (q z) h0) ?_
    · rw [tl_cut, et, show (1 : Int) = ((1 : Nat) : Int) from rfl, cut_drop]; rfl
    · refine TL.ext_tl ?_
      rw [tl_cut, et, tl_minus, show (1 : Int) = ((1 : Nat) : Int) from rfl, cut_take]; rfl
    · have := intText_neg (x := strI i) (cs := c :: cs) et hd (by simp) (by omega)
      rw [this, ← e, TL.numL_val, ← hn]
theorem inV_ints (l : List Int) : L2.inV .non (l.map L2.V.int) = false := by
  unfold L2.inV
  rw [List.any_map]
  induction l with
  | nil => rfl
  | cons a l ih => rw [List.any_cons, ih]; rfl
theorem vsD_ints : ∀ l : List Int, vsD (l.map D.int) = some (l.map L2.V.int)
  | [] => rfl
  | a :: l => by
    show ((vD (.int a)).bind fun v => (vsD (l.map D.int)).map (v :: ·)) = _
    rw [vsD_ints l]; rfl
theorem m_integers_of_eq {l : List Int} {S : Sto} (h : ∀ i ∈ l, Num i) : m_integers_of [.lst ((l.map strI).map D.str)] S = some (dI l, S) := by
  have e : lcGo (lcEl [2] (.nm 2) tT (eF m_integer_of (aCons (eVar 2) (aNil))) [some (.lst ((l.map strI).map D.str)), none, none]) ((l.map strI).map D.str) S = some (l.map D.int, S) := by
    rw [List.map_map]
    exact lcGo_map (fun i => D.str (strI i)) D.int l fun i hi => lcEl_one rfl (by
      have := m_integer_of_eq (S := S) (h i hi)
      simp only [eF_ev, aCons_ev, eVar_ev, aNil_ev, List.getElem?_cons_zero, List.getElem?_cons_succ, wipeE_cons, wipeE_nil, List.set_cons_succ, List.set_cons_zero, Option.bind_some, id_eq]
      exact this)
  have h2 : dIn .non (.lst (l.map D.int)) = some (.bl false) := by
    have : dInB .non (.lst (l.map D.int)) = some false := by
      show ((vD .non).bind fun v => (vsD (l.map D.int)).map fun vs => L2.inV v vs) = _
      rw [vsD_ints]
      show some (L2.inV .non (l.map L2.V.int)) = _
      rw [inV_ints]
    simp [dIn, this]
  generalize (l.map strI).map D.str = ds at e
  simp [m_integers_of, runDef, b_integers_of, e, fz_cons, h2]
end Wk
end
section
set_option Elab.async false
set_option linter.all false
set_option maxRecDepth 100000
set_option maxHeartbeats 800000
/-! P13: lines of words. Own work. -/
namespace Wk
open PySem J
def spL (l : List Int) : List Nat := l.flatMap fun i => 32 :: digL i
abbrev ln (w : Str) (l : List Int) : Str := Txt.join " " (w :: l.map strI)
theorem joinL_sp : ∀ (l : List Int) (a : List Nat), TL.joinL [32] (a :: l.map digL) = a ++ spL l
  | [], a => by simp [TL.joinL, spL]
  | i :: l, a => by
    show a ++ ([32] ++ TL.joinL [32] (digL i :: l.map digL)) = _
    rw [joinL_sp l (digL i)]
    simp [spL]
theorem tl_ln (w : Str) (l : List Int) : TL.tl (ln w l) = TL.tl w ++ spL l := by
  unfold ln
  rw [TL.join_eq, TL.tl_join, tl_sp, List.map_cons, List.map_map, ← joinL_sp]
  congr 2
  exact List.map_congr_left fun i _ => tl_strI i
structure Sz (l : List Int) : Prop where
  few : l.length ≤ 1000
  num : ∀ i ∈ l, Num i
theorem spL_len : ∀ {l : List Int}, (∀ i ∈ l, Num i) → (spL l).length ≤ 502 * l.length
  | [], _ => by simp [spL]
  | i :: l, h => by
    have ih := spL_len (l := l) fun j hj => h j (List.mem_cons_of_mem _ hj)
    have := dig_len (h i List.mem_cons_self)
    have e : spL (i :: l) = 32 :: digL i ++ spL l := by simp [spL]
    rw [e]
    simp only [List.length_append, List.length_cons]
    omega
theorem ln_len {w : Str} {l : List Int} (h : Sz l) : (ln w l).length ≤ w.length + 502000 := by
  rw [TL.len_tl, tl_ln, List.length_append, ← TL.len_tl]
  have := spL_len h.num
  have := h.few
  omega
theorem spL_free {s : Nat} (h : (s < 48 ∨ 57 < s) ∧ s ≠ 45 ∧ s ≠ 32) : ∀ l : List Int, s ∉ spL l
  | [], hm => by simp [spL] at hm
  | i :: l, hm => by
    have e : spL (i :: l) = 32 :: (digL i ++ spL l) := by simp [spL]
    rw [e] at hm
    rcases List.mem_cons.mp hm with q | hm
    · exact h.2.2 q
    rcases List.mem_append.mp hm with q | q
    · exact dig_free ⟨h.1, h.2.1⟩ q
    · exact spL_free h l q
theorem ln_free {s : Nat} (h : (s < 48 ∨ 57 < s) ∧ s ≠ 45 ∧ s ≠ 32) {w : Str} {l : List Int} (hw : s ∉ TL.tl w) : s ∉ TL.tl (ln w l) := by
  rw [tl_ln]
  intro hm
  rcases List.mem_append.mp hm with q | q
  · exact hw q
  · exact spL_free h l q
theorem fStr_int {i : Int} (h : Num i) : fStr [.int i] = some (.str (strI i)) := by
  have : i.natAbs.log2 < 1920 := by
    by_cases h0 : i.natAbs = 0
    · rw [h0]; decide +kernel
    · exact (Nat.log2_lt h0).mpr (Nat.lt_trans h (by decide +kernel))
  show (if i.natAbs.log2 < 1920 then some (D.str (Str.ofString (toString i))) else none) = _
  rw [if_pos this]
theorem lens_sum : ∀ {l : List Int}, (∀ i ∈ l, Num i) → ((l.map strI).map (·.length)).sum ≤ 501 * l.length
  | [], _ => by simp
  | i :: l, h => by
    have ih := lens_sum (l := l) fun j hj => h j (List.mem_cons_of_mem _ hj)
    have := dig_len (h i List.mem_cons_self)
    rw [List.map_cons, List.map_cons, List.sum_cons, len_strI, List.length_cons]
    omega
theorem dJoin_strs (a : Str) (ys : List Str) (h : (ys.map (·.length)).sum + ys.length * a.length ≤ 16777216) : dJoin (.str a) (.lst (ys.map D.str)) = some (.str (Txt.join a ys)) := by
  show ((strsD (ys.map D.str)).bind fun ys => if (ys.map (·.length)).sum + ys.length * a.length ≤ 16777216 then some (D.str (Txt.join a ys)) else none) = _
  rw [strsD_map, Option.bind_some, if_pos h]
theorem len_sp : (" " : Str).length = 1 := by decide +kernel
theorem len_nil : ("" : Str).length = 0 := by decide +kernel
theorem m_words_of_eq {w : Str} {d : D} {l : List Int} {S : Sto} (hd : itemsD d = some (l.map D.int)) (h : Sz l) (hw : w.length ≤ 600000) : m_words_of [.str w, d] S = some (.str (ln w l), S) := by
  have e : lcGo (lcEl [2] (.nm 2) tT (eN fStr (aCons (eVar 2) aNil)) [some (.str w), some d, none]) (l.map D.int) S = some ((l.map strI).map D.str, S) := by
    rw [List.map_map]
    exact lcGo_map D.int (fun i => D.str (strI i)) l fun i hi => lcEl_one rfl (by
      have := fStr_int (h.num i hi)
      simp only [eN_ev, aCons_ev, eVar_ev, aNil_ev, List.getElem?_cons_zero, List.getElem?_cons_succ, wipeE_cons, wipeE_nil, List.set_cons_succ, List.set_cons_zero, Option.bind_some, id_eq, this])
  have a : dAdd (.lst [.str w]) (.lst ((l.map strI).map D.str)) = some (.lst ((w :: l.map strI).map D.str)) := by
    rw [dAdd_lst, if_pos (line_small (by have := h.few; simp; omega))]; rfl
  have b : dJoin (.str " ") (.lst ((w :: l.map strI).map D.str)) = some (.str (ln w l)) := dJoin_strs _ _ (by
    have := lens_sum h.num
    have := h.few
    rw [len_sp, List.map_cons, List.sum_cons, List.length_cons, List.length_map]
    omega)
  generalize (w :: l.map strI).map D.str = ys at a b
  generalize (l.map strI).map D.str = xs at e a
  generalize ln w l = z at *
  simp [m_words_of, runDef, b_words_of, hd, e, fz_cons, a, b, -dAdd_lst]
/-! ### the law's words -/
abbrev lw (l : List Int) : Str := Txt.join "" (l.map fun i => (" " : Str) ++ strI i)
theorem joinL_nil : ∀ l : List (List Nat), TL.joinL [] l = l.flatten
  | [] => rfl
  | [p] => by simp [TL.joinL]
  | p :: q :: r => by
    show p ++ ([] ++ TL.joinL [] (q :: r)) = _
    rw [joinL_nil (q :: r)]; simp
theorem tl_lw (l : List Int) : TL.tl (lw l) = spL l := by
  unfold lw
  rw [TL.join_eq, TL.tl_join, tl_nil, joinL_nil, List.map_map, spL, List.flatMap_def]
  congr 1
  refine List.map_congr_left fun i _ => ?_
  show TL.tl ((" " : Str) ++ strI i) = _
  rw [TL.tl_append, tl_sp, tl_strI]; rfl
theorem lw_ln (w : Str) (l : List Int) : w ++ lw l = ln w l := TL.ext_tl (by rw [TL.tl_append, tl_lw, tl_ln])
theorem lw_len {l : List Int} (h : Sz l) : (lw l).length ≤ 502000 := by
  rw [TL.len_tl, tl_lw]
  have := spL_len h.num
  have := h.few
  omega
theorem dAdd_str {x y : Str} (h : x.length + y.length ≤ 10000000) : dAdd (.str x) (.str y) = some (.str (x ++ y)) := by
  show (if x.length + y.length ≤ sizeLine then some (D.str (x ++ y)) else none) = _
  rw [if_pos (Nat.le_trans h (by decide))]
theorem m_lwords_eq {d : D} {l : List Int} {S : Sto} (hd : itemsD d = some (l.map D.int)) (h : Sz l) : m__law_words [d] S = some (.str (lw l), S) := by
  have e : lcGo (lcEl [1] (.nm 1) tT (e2 dAdd (eC (.str " ")) (eN fStr (aCons (eVar 1) aNil))) [some d, none]) (l.map D.int) S = some ((l.map fun i => (" " : Str) ++ strI i).map D.str, S) := by
    rw [List.map_map]
    exact lcGo_map D.int (fun i => D.str ((" " : Str) ++ strI i)) l fun i hi => lcEl_one rfl (by
      have := fStr_int (h.num i hi)
      have h2 := dig_len (h.num i hi)
      have h3 : dAdd (.str " ") (.str (strI i)) = some (.str ((" " : Str) ++ strI i)) := dAdd_str (by rw [len_sp, len_strI]; omega)
      simp only [e2_ev, eC_ev, eN_ev, aCons_ev, eVar_ev, aNil_ev, List.getElem?_cons_zero, List.getElem?_cons_succ, wipeE_cons, wipeE_nil, List.set_cons_succ, List.set_cons_zero, Option.bind_some, id_eq, this, h3])
  have b : dJoin (.str "") (.lst ((l.map fun i => (" " : Str) ++ strI i).map D.str)) = some (.str (lw l)) := dJoin_strs _ _ (by
    have hs : ∀ l : List Int, (∀ i ∈ l, Num i) → ((l.map fun i => (" " : Str) ++ strI i).map (·.length)).sum ≤ 502 * l.length := fun l => by
      induction l with
      | nil => simp
      | cons i l ih =>
        intro h
        have ih := ih fun j hj => h j (List.mem_cons_of_mem _ hj)
        have := dig_len (h i List.mem_cons_self)
        rw [List.map_cons, List.map_cons, List.sum_cons, Str.length_append, len_sp, len_strI, List.length_cons]
        omega
    have := hs l h.num
    have := h.few
    rw [len_nil]
    omega)
  generalize (l.map fun i => (" " : Str) ++ strI i).map D.str = ys at e b
  generalize lw l = z at *
  simp [m__law_words, runDef, b__law_words, hd, e, fz_cons, b]
/-! ### words behind a word -/
theorem k_sp : (" " : Str).cps.all (· < 256) = true := by decide +kernel
theorem k_nl : ("\n" : Str).cps.all (· < 256) = true := by decide +kernel
theorem k_co : (":" : Str).cps.all (· < 256) = true := by decide +kernel
theorem len_nl : ("\n" : Str).length = 1 := by decide +kernel
theorem len_co : (":" : Str).length = 1 := by decide +kernel
theorem split_ln {w : Str} {l : List Int} (hw : 32 ∉ TL.tl w) : Txt.split (ln w l) " " = w :: l.map strI :=
  TL.split_join tl_sp k_sp (by simp) fun p hp => by
    rcases List.mem_cons.mp hp with rfl | hp
    · exact hw
    · obtain ⟨i, _, rfl⟩ := List.mem_map.mp hp
      rw [tl_strI]
      exact dig_free ⟨by decide, by decide⟩
theorem dSplit_eq {a b : Str} {ps : List Str} (h1 : Txt.split a b = ps) (h2 : (b.length == 0) = false) (h3 : a.length ≤ 10000000) (h4 : ps.length ≤ 10000000) : dSplit (.str a) (.str b) = some (.lst (ps.map D.str)) := by
  subst h1
  show (if (b.length == 0) = false ∧ a.length + 2 ≤ sizeLine ∧ (Txt.split a b).length ≤ sizeLine then some (D.lst ((Txt.split a b).map .str)) else none) = _
  rw [if_pos ⟨h2, Nat.le_trans (Nat.add_le_add_right h3 2) (by decide), Nat.le_trans h4 (by decide)⟩]
theorem dSplit_ln {w : Str} {l : List Int} (h : Sz l) (hw : w.length ≤ 600000) (hf : 32 ∉ TL.tl w) : dSplit (.str (ln w l)) (.str " ") = some (.lst (.str w :: (l.map strI).map D.str)) :=
  dSplit_eq (split_ln hf) (by rw [len_sp]; rfl) (by have := ln_len (w := w) h; omega) (by have := h.few; simp; omega)
theorem m_behind_eq {w w' : Str} {l : List Int} {S : Sto} (h : Sz l) (hw : w.length ≤ 600000) (hf : 32 ∉ TL.tl w) : m_numbers_behind [.str (ln w l), .str w'] S = some (if w = w' then dI l else .non, S) := by
  have s := dSplit_ln h hw hf
  have i := m_integers_of_eq (S := S) h.num
  generalize ln w l = z at s
  generalize (l.map strI).map D.str = ds at s i
  have c : cutL (D.str w :: ds) (some 1) none = ds := by
    rw [show (1 : Int) = ((1 : Nat) : Int) from rfl, cut_drop]; rfl
  by_cases e : w = w'
  · simp [m_numbers_behind, runDef, b_numbers_behind, s, fz_cons, e, i, c]
    rw [show cutL (D.str w' :: ds) (some 1) none = ds by rw [← e]; exact c, i]
    rfl
  · simp [m_numbers_behind, runDef, b_numbers_behind, s, fz_cons, e]
end Wk
end
section
set_option Elab.async false
set_option linter.all false
set_option maxRecDepth 100000
set_option maxHeartbeats 800000
/-! P14: texts of models. Own work. -/
namespace Wk
open PySem J
structure S3 (l : List Int) : Prop where
  few : l.length ≤ 100
  bd : ∀ i ∈ l, -100 ≤ i ∧ i ≤ 100
theorem S3.sz {l : List Int} (h : S3 l) : Sz l := ⟨by have := h.few; omega, fun i hi => Num.small (by have := h.bd i hi; omega)⟩
theorem spL_len3 : ∀ {l : List Int}, (∀ i ∈ l, -100 ≤ i ∧ i ≤ 100) → (spL l).length ≤ 5 * l.length
  | [], _ => by simp [spL]
  | i :: l, h => by
    have ih := spL_len3 (l := l) fun j hj => h j (List.mem_cons_of_mem _ hj)
    have := dig_len3 (h i List.mem_cons_self)
    have e : spL (i :: l) = 32 :: digL i ++ spL l := by simp [spL]
    rw [e]
    simp only [List.length_append, List.length_cons]
    omega
theorem ln_len3 {w : Str} {l : List Int} (h : S3 l) : (ln w l).length ≤ w.length + 500 := by
  rw [TL.len_tl, tl_ln, List.length_append, ← TL.len_tl]
  have := spL_len3 h.bd
  have := h.few
  omega
theorem lw_len3 {l : List Int} (h : S3 l) : (lw l).length ≤ 500 := by
  rw [TL.len_tl, tl_lw]
  have := spL_len3 h.bd
  have := h.few
  omega
/-- [words_of(word, vector) for vector in M] -/
theorem lc_lines {a : Env' → M D} {j : Nat} {ρ : Env'} {w : Str} {M : List (List Int)} {S : Sto} (hj : j < ρ.length) (ha : ∀ x, a ((ρ.set j none).set j (some x)) S = some (.str w, S)) (hM : ∀ r ∈ M, Sz r) (hw : w.length ≤ 600000) :
    lcGo (lcEl [j] (.nm j) tT (eF m_words_of (aCons a (aCons (eVar j) (aNil)))) ρ) (M.map dI) S = some ((M.map (ln w)).map D.str, S) := by
  rw [List.map_map]
  refine lcGo_map dI (fun r => D.str (ln w r)) M fun r hr => lcEl_one (ρ1 := (ρ.set j none).set j (some (dI r))) (by simp [hj]) ?_
  have e := m_words_of_eq (S := S) (w := w) (d := dI r) rfl (hM r hr) hw
  have e2 : eVar j ((ρ.set j none).set j (some (dI r))) S = some (dI r, S) := eVar_at (by rw [List.getElem?_set_self (by simpa using hj)])
  simp only [eF_ev, aCons_ev, aNil_ev, ha, e2, Option.bind_some]
  exact e
/-- [word + words(vector) for vector in M] -/
theorem lc_llines {a : Env' → M D} {j : Nat} {ρ : Env'} {w : Str} {M : List (List Int)} {S : Sto} (hj : j < ρ.length) (ha : ∀ x, a ((ρ.set j none).set j (some x)) S = some (.str w, S)) (hM : ∀ r ∈ M, Sz r) (hw : w.length ≤ 600000) :
    lcGo (lcEl [j] (.nm j) tT (e2 dAdd a (eF m__law_words (aCons (eVar j) (aNil)))) ρ) (M.map dI) S = some ((M.map (ln w)).map D.str, S) := by
  rw [List.map_map]
  refine lcGo_map dI (fun r => D.str (ln w r)) M fun r hr => lcEl_one (ρ1 := (ρ.set j none).set j (some (dI r))) (by simp [hj]) ?_
  have e := m_lwords_eq (S := S) (d := dI r) rfl (hM r hr)
  have e2 : eVar j ((ρ.set j none).set j (some (dI r))) S = some (dI r, S) := eVar_at (by rw [List.getElem?_set_self (by simpa using hj)])
  have e3 : dAdd (.str w) (.str (lw r)) = some (.str (ln w r)) := by
    rw [dAdd_str (by have := lw_len (hM r hr); omega), lw_ln]
  simp only [J.e2_ev, eF_ev, aCons_ev, aNil_ev, ha, e2, e, e3, Option.bind_some]
structure LinesOk (xs : List Str) : Prop where
  ne : xs ≠ []
  few : xs.length ≤ 1000
  short : ∀ x ∈ xs, x.length ≤ 2000
  free : ∀ x ∈ xs, 10 ∉ TL.tl x
theorem sum_le : ∀ {ls : List Nat} {k : Nat}, (∀ x ∈ ls, x ≤ k) → ls.sum ≤ ls.length * k
  | [], k, _ => by simp
  | x :: ls, k, h => by
    have ih := sum_le (ls := ls) fun y hy => h y (List.mem_cons_of_mem _ hy)
    have := h x List.mem_cons_self
    rw [List.sum_cons, List.length_cons, Nat.add_mul]
    omega
theorem LinesOk.sum {xs : List Str} (h : LinesOk xs) : (xs.map (·.length)).sum ≤ 2000000 := by
  have := sum_le (ls := xs.map (·.length)) (k := 2000) fun x hx => by
    obtain ⟨y, hy, rfl⟩ := List.mem_map.mp hx
    exact h.short y hy
  have := h.few
  rw [List.length_map] at *
  omega
theorem LinesOk.join {xs : List Str} (h : LinesOk xs) : dJoin (.str "\n") (.lst (xs.map D.str)) = some (.str (Txt.join "\n" xs)) := dJoin_strs _ _ (by
  have := h.sum
  have := h.few
  rw [len_nl]; omega)
theorem LinesOk.split {xs : List Str} (h : LinesOk xs) : dSplit (.str (Txt.join "\n" xs)) (.str "\n") = some (.lst (xs.map D.str)) := by
  refine dSplit_eq (TL.split_join tl_nl k_nl h.ne h.free) (by rw [len_nl]; rfl) ?_ (by have := h.few; omega)
  rw [TL.join_eq]
  have := PySem.StrLaws.join_length_le "\n" xs
  have := h.sum
  have := h.few
  rw [len_nl] at *
  omega
theorem m_rows_eq {xs : List Str} {S : Sto} (h : LinesOk xs) : m_rows_of_text [.str (Txt.join "\n" xs)] S = some (.lst (xs.map D.str), S) := by
  have e := h.split
  generalize Txt.join "\n" xs = z at *
  simp [m_rows_of_text, runDef, b_rows_of_text, isiB, isiT, dTy, e]
/-! ### windows -/
def winL (W : Win) : List Str := ln "window" [(W.many : Int), (W.k : Int)] :: ln "default" W.df :: W.es.map fun e => ln (ln "after" e.1 ++ ":") e.2
theorem len_kind : ("window" : Str).length ≤ 10 ∧ ("default" : Str).length ≤ 10 ∧ ("after" : Str).length ≤ 10 ∧ ("net" : Str).length ≤ 10 ∧ ("embed" : Str).length ≤ 10 ∧ ("place" : Str).length ≤ 10 ∧ ("out" : Str).length ≤ 10 ∧ ("query" : Str).length ≤ 10 ∧ ("key" : Str).length ≤ 10 ∧ ("worth" : Str).length ≤ 10 ∧ ("mix" : Str).length ≤ 10 ∧ ("merge" : Str).length ≤ 10 ∧ ("letters " : Str).length ≤ 10 ∧ ("letters" : Str).length ≤ 10 := by decide +kernel
theorem nl_kind : 10 ∉ TL.tl ("window" : Str) ∧ 10 ∉ TL.tl ("default" : Str) ∧ 10 ∉ TL.tl ("after" : Str) ∧ 10 ∉ TL.tl ("net" : Str) ∧ 10 ∉ TL.tl ("embed" : Str) ∧ 10 ∉ TL.tl ("place" : Str) ∧ 10 ∉ TL.tl ("out" : Str) ∧ 10 ∉ TL.tl ("query" : Str) ∧ 10 ∉ TL.tl ("key" : Str) ∧ 10 ∉ TL.tl ("worth" : Str) ∧ 10 ∉ TL.tl ("mix" : Str) ∧ 10 ∉ TL.tl ("merge" : Str) ∧ 10 ∉ TL.tl ("letters " : Str) ∧ 10 ∉ TL.tl (":" : Str) := by decide +kernel
theorem sp_kind : 32 ∉ TL.tl ("window" : Str) ∧ 32 ∉ TL.tl ("default" : Str) ∧ 32 ∉ TL.tl ("after" : Str) ∧ 32 ∉ TL.tl ("net" : Str) ∧ 32 ∉ TL.tl ("embed" : Str) ∧ 32 ∉ TL.tl ("place" : Str) ∧ 32 ∉ TL.tl ("out" : Str) ∧ 32 ∉ TL.tl ("query" : Str) ∧ 32 ∉ TL.tl ("key" : Str) ∧ 32 ∉ TL.tl ("worth" : Str) ∧ 32 ∉ TL.tl ("mix" : Str) ∧ 32 ∉ TL.tl ("merge" : Str) ∧ 32 ∉ TL.tl ("letters" : Str) := by decide +kernel
theorem WinOk.two {W : Win} (h : WinOk W) : S3 [(W.many : Int), (W.k : Int)] := ⟨by simp, fun i hi => by
  have := h.many
  have := h.k
  simp only [List.mem_cons, List.not_mem_nil, or_false] at hi
  omega⟩
theorem WtOk.s3 {n : Nat} {l : List Int} (h : WtOk n l) (hn : n ≤ 6) : S3 l := ⟨by have := h.1; omega, fun i hi => by have := h.2.1 i hi; omega⟩
theorem TokOk.s3 {n : Nat} {l : List Int} (h : TokOk n l) (hn : n ≤ 6) (hl : l.length ≤ 100) : S3 l := ⟨hl, fun i hi => by have := h i hi; omega⟩
theorem nl_ok {l : List Int} {w : Str} (hw : 10 ∉ TL.tl w) : 10 ∉ TL.tl (ln w l) := ln_free ⟨by decide, by decide, by decide⟩ hw
theorem winL_ok {W : Win} (h : WinOk W) : LinesOk (winL W) := by
  have hk := h.k
  have hm := h.many
  refine ⟨by simp [winL], by have := h.few; simp [winL]; omega, fun x hx => ?_, fun x hx => ?_⟩
  · rcases List.mem_cons.mp hx with rfl | hx
    · have := ln_len3 (w := "window") h.two
      have := len_kind; omega
    rcases List.mem_cons.mp hx with rfl | hx
    · have := ln_len3 (w := "default") (h.df.s3 hm.2)
      have := len_kind; omega
    · obtain ⟨e, he, rfl⟩ := List.mem_map.mp hx
      have a := ln_len3 (w := ln "after" e.1 ++ ":") ((h.ws e he).s3 hm.2)
      have b := ln_len3 (w := "after") ((h.keys e he).1.s3 hm.2 (by have := (h.keys e he).2; omega))
      rw [Str.length_append, len_co] at a
      have := len_kind; omega
  · have k := nl_kind
    rcases List.mem_cons.mp hx with rfl | hx
    · exact nl_ok k.1
    rcases List.mem_cons.mp hx with rfl | hx
    · exact nl_ok k.2.1
    · obtain ⟨e, he, rfl⟩ := List.mem_map.mp hx
      refine nl_ok ?_
      rw [TL.tl_append]
      intro hm
      rcases List.mem_append.mp hm with q | q
      · exact nl_ok k.2.2.1 q
      · exact k.2.2.2.2.2.2.2.2.2.2.2.2.2 q
theorem m_lines_win {W : Win} {S : Sto} (h : WinOk W) : m_model_lines [dWin W] S = some (.lst ((winL W).map D.str), S) := by
  have hm := h.many
  have hk := h.k
  have e1 : m_words_of [.str "window", .tup [.int (W.many : Nat), .int (W.k : Nat)]] S = some (.str (ln "window" [(W.many : Int), (W.k : Int)]), S) := m_words_of_eq rfl h.two.sz (by have := len_kind; omega)
  have e2 : m_words_of [.str "default", dI W.df] S = some (.str (ln "default" W.df), S) := m_words_of_eq rfl (h.df.s3 hm.2).sz (by have := len_kind; omega)
  have e3 : ∀ a b c d e f g i j k l m n o p q, lcGo (lcEl [7, 8] (.tp [.nm 7, .nm 8]) (tT) (eF m_words_of (aCons (J.e2 dAdd (eF m_words_of (aCons (eC (.str "after")) (aCons (eVar 7) (aNil)))) (eC (.str ":"))) (aCons (eVar 8) (aNil)))) [a, b, c, d, e, f, g, none, none, i, j, k, l, m, n, o, p, q]) (W.es.map dPr) S = some ((W.es.map fun e => ln (ln "after" e.1 ++ ":") e.2).map D.str, S) := fun a b c d e f g i j k l m n o p q => by
    rw [List.map_map]
    refine lcGo_map dPr (fun e => D.str (ln (ln "after" e.1 ++ ":") e.2)) W.es fun e he => lcEl_one rfl ?_
    have s1 := (h.keys e he).1.s3 hm.2 (by have := (h.keys e he).2; omega)
    have a1 : m_words_of [.str "after", dI e.1] S = some (.str (ln "after" e.1), S) := m_words_of_eq rfl s1.sz (by have := len_kind; omega)
    have b1 := ln_len3 (w := "after") s1
    have b2 := len_kind
    have a2 : dAdd (.str (ln "after" e.1)) (.str ":") = some (.str (ln "after" e.1 ++ ":")) := dAdd_str (by rw [len_co]; omega)
    have a3 : m_words_of [.str (ln "after" e.1 ++ ":"), dI e.2] S = some (.str (ln (ln "after" e.1 ++ ":") e.2), S) := m_words_of_eq rfl ((h.ws e he).s3 hm.2).sz (by rw [Str.length_append, len_co]; omega)
    simp only [J.e2_ev, eF_ev, eC_ev, aCons_ev, aNil_ev, eVar_ev, wipeE_cons, wipeE_nil, List.set_cons_succ, List.set_cons_zero, List.getElem?_cons_zero, List.getElem?_cons_succ, Option.bind_some, id_eq, a1, a2, a3]
  have hf := h.few
  have e4 : ∀ x y : D, dAdd (.lst [x, y]) (.lst ((W.es.map fun e => ln (ln "after" e.1 ++ ":") e.2).map D.str)) = some (.lst (x :: y :: (W.es.map fun e => ln (ln "after" e.1 ++ ":") e.2).map D.str)) := fun x y => by
    rw [dAdd_lst, if_pos (line_small (by simp; omega))]; rfl
  unfold winL
  generalize ln "window" [(W.many : Int), (W.k : Int)] = z1 at *
  generalize ln "default" W.df = z2 at *
  rw [List.map_cons, List.map_cons]
  generalize (W.es.map fun e => ln (ln "after" e.1 ++ ":") e.2).map D.str = zs at *
  have f1 : (eL (fLc (iSeq (eVar 4)) [7, 8] (.tp [.nm 7, .nm 8]) (tT) (eF m_words_of (aCons (J.e2 dAdd (eF m_words_of (aCons (eC (.str "after")) (aCons (eVar 7) (aNil)))) (eC (.str ":"))) (aCons (eVar 8) (aNil)))))) (fz [some (.val (dWin W)), some (.val (.str "window")), some (.val (.int (W.many : Nat))), some (.val (.int (W.k : Nat))), some (.val (.tup (W.es.map dPr))), some (.val (dI W.df)), some (.own [.str z1, .str z2]), none, none, none, none, none, none, none, none, none, none, none]) S = some (.lst zs, S) := by
    simp [fz_cons, e3]
  refine run_ret (o := kill [some (.val (dWin W)), some (.val (.str "window")), some (.val (.int (W.many : Nat))), some (.val (.int (W.k : Nat))), some (.val (.tup (W.es.map dPr))), some (.val (dI W.df)), some (.own [.str z1, .str z2]), none, none, none, none, none, none, none, none, none, none, none]) rfl ?_
  show (sSeq (sIf _ _ _) _) [some (.val (dWin W)), none, none, none, none, none, none, none, none, none, none, none, none, none, none, none, none, none] S = _
  have g : ∀ m2 : SM, (sSeq (sAsg (.tp [.nm 1, .nm 2, .nm 3, .nm 4, .nm 5]) (eVar 0)) (sSeq (sOwn 6 (aCons (eF m_words_of (aCons (eC (.str "window")) (aCons (eTup (aCons (eVar 2) (aCons (eVar 3) (aNil)))) (aNil)))) (aCons (eF m_words_of (aCons (eC (.str "default")) (aCons (eVar 5) (aNil)))) (aNil)))) m2)) [some (.val (dWin W)), none, none, none, none, none, none, none, none, none, none, none, none, none, none, none, none, none] S = m2 [some (.val (dWin W)), some (.val (.str "window")), some (.val (.int (W.many : Nat))), some (.val (.int (W.k : Nat))), some (.val (.tup (W.es.map dPr))), some (.val (dI W.df)), some (.own [.str z1, .str z2]), none, none, none, none, none, none, none, none, none, none, none] S := fun m2 => by
    simp [e1, e2]
  have g2 : ∀ m1 m2 : SM, sIf (tB (e2S dEq (e2S dIx (eVar 0) (eC (.int 0))) (eC (.str "window")))) m1 m2 [some (.val (dWin W)), none, none, none, none, none, none, none, none, none, none, none, none, none, none, none, none, none] S = m1 [some (.val (dWin W)), none, none, none, none, none, none, none, none, none, none, none, none, none, none, none, none, none] S := fun m1 m2 => by simp
  rw [sSeq_ev, g2, g, sRet_ev, J.e2_ev, eVar_at (d := .lst [.str z1, .str z2]) rfl]
  simp only [Option.bind_some]
  rw [f1]
  simp only [Option.bind_some, e4]
end Wk
end
section
set_option Elab.async false
set_option linter.all false
set_option maxRecDepth 100000
set_option maxHeartbeats 800000
/-! P15: texts of windows, by the program and by the law. Own work. -/
namespace Wk
open PySem J
theorem m_text_win {W : Win} {S : Sto} (h : WinOk W) : m_model_text [dWin W] S = some (.str (Txt.join "\n" (winL W)), S) := by
  have e1 := m_is_model_value_win (S := S) h
  have e2 := m_lines_win (S := S) h
  have e3 := (winL_ok h).join
  generalize Txt.join "\n" (winL W) = z at *
  generalize (winL W).map D.str = zs at *
  simp [m_model_text, runDef, b_model_text, m_need_model, b_need_model, e1, e2, e3]
theorem m_ltext_win {W : Win} {S : Sto} (h : WinOk W) : m__law_model_text [dWin W] S = some (.str (Txt.join "\n" (winL W)), S) := by
  have hm := h.many
  have hk := h.k
  have lk := len_kind
  have e1 : m__law_words [.tup [.int (W.many : Nat), .int (W.k : Nat)]] S = some (.str (lw [(W.many : Int), (W.k : Int)]), S) := m_lwords_eq rfl h.two.sz
  have e1' : dAdd (.str "window") (.str (lw [(W.many : Int), (W.k : Int)])) = some (.str (ln "window" [(W.many : Int), (W.k : Int)])) := by
    rw [dAdd_str (by have := lw_len h.two.sz; omega), lw_ln]
  have e2 : m__law_words [dI W.df] S = some (.str (lw W.df), S) := m_lwords_eq rfl (h.df.s3 hm.2).sz
  have e2' : dAdd (.str "default") (.str (lw W.df)) = some (.str (ln "default" W.df)) := by
    rw [dAdd_str (by have := lw_len (h.df.s3 hm.2).sz; omega), lw_ln]
  have e3 : ∀ a b c d e f, lcGo (lcEl [2, 3] (.tp [.nm 2, .nm 3]) (tT) (J.e2 dAdd (J.e2 dAdd (J.e2 dAdd (eC (.str "after")) (eF m__law_words (aCons (eVar 2) (aNil)))) (eC (.str ":"))) (eF m__law_words (aCons (eVar 3) (aNil)))) [a, b, none, none, c, d, e, f]) (W.es.map dPr) S = some ((W.es.map fun e => ln (ln "after" e.1 ++ ":") e.2).map D.str, S) := fun a b c d e f => by
    rw [List.map_map]
    refine lcGo_map dPr (fun e => D.str (ln (ln "after" e.1 ++ ":") e.2)) W.es fun e he => lcEl_one rfl ?_
    have s1 := (h.keys e he).1.s3 hm.2 (by have := (h.keys e he).2; omega)
    have s2 := (h.ws e he).s3 hm.2
    have a1 : m__law_words [dI e.1] S = some (.str (lw e.1), S) := m_lwords_eq rfl s1.sz
    have a2 : dAdd (.str "after") (.str (lw e.1)) = some (.str (ln "after" e.1)) := by rw [dAdd_str (by have := lw_len s1.sz; omega), lw_ln]
    have b1 := ln_len3 (w := "after") s1
    have a3 : dAdd (.str (ln "after" e.1)) (.str ":") = some (.str (ln "after" e.1 ++ ":")) := dAdd_str (by rw [len_co]; omega)
    have a4 : m__law_words [dI e.2] S = some (.str (lw e.2), S) := m_lwords_eq rfl s2.sz
    have a5 : dAdd (.str (ln "after" e.1 ++ ":")) (.str (lw e.2)) = some (.str (ln (ln "after" e.1 ++ ":") e.2)) := by rw [dAdd_str (by have := lw_len s2.sz; rw [Str.length_append, len_co]; omega), lw_ln]
    simp only [J.e2_ev, eF_ev, eC_ev, aCons_ev, aNil_ev, eVar_ev, wipeE_cons, wipeE_nil, List.set_cons_succ, List.set_cons_zero, List.getElem?_cons_zero, List.getElem?_cons_succ, Option.bind_some, id_eq, a1, a2, a3, a4, a5]
  have hf := h.few
  have e5 := (winL_ok h).join
  have ee : (winL W).map D.str = D.str (ln "window" [(W.many : Int), (W.k : Int)]) :: D.str (ln "default" W.df) :: (W.es.map fun e => ln (ln "after" e.1 ++ ":") e.2).map D.str := rfl
  rw [ee] at e5
  have hz : 2 + ((W.es.map fun e => ln (ln "after" e.1 ++ ":") e.2).map D.str).length ≤ sizeLine := line_small (by simp; omega)
  have hz1 : 1 < sizeLine := by decide
  have ec : cutL [D.str "window", .int (W.many : Nat), .int (W.k : Nat), .tup (W.es.map dPr), dI W.df] (some 1) (some 3) = [.int (W.many : Nat), .int (W.k : Nat)] := rfl
  generalize Txt.join "\n" (winL W) = zz at *
  generalize ln "window" [(W.many : Int), (W.k : Int)] = z1 at *
  generalize ln "default" W.df = z2 at *
  generalize (W.es.map fun e => ln (ln "after" e.1 ++ ":") e.2).map D.str = zs at *
  generalize lw [(W.many : Int), (W.k : Int)] = y1 at *
  generalize lw W.df = y2 at *
  refine run_ret (o := kill [some (.val (dWin W)), some (.own (.str z1 :: .str z2 :: zs)), none, none, none, none, none, none]) rfl ?_
  show (sSeq _ (sSeq (sIf _ (sSeq _ (sSeq _ _)) _) _)) [some (.val (dWin W)), none, none, none, none, none, none, none] S = _
  rw [sSeq_nx (m1 := sOwn 1 _) (ρ' := [some (.val (dWin W)), some (.own [.str z1]), none, none, none, none, none, none]) (S' := S) (by simp [ec, e1, e1'])]
  have g2 : ∀ m1 m2 : SM, sIf (tB (e2S dEq (e2S dIx (eVar 0) (eC (.int 0))) (eC (.str "window")))) m1 m2 [some (.val (dWin W)), some (.own [.str z1]), none, none, none, none, none, none] S = m1 [some (.val (dWin W)), some (.own [.str z1]), none, none, none, none, none, none] S := fun m1 m2 => by simp
  rw [sSeq_ev, g2]
  rw [sSeq_nx (m1 := sApp 1 _) (ρ' := [some (.val (dWin W)), some (.own [.str z1, .str z2]), none, none, none, none, none, none]) (S' := S) (by simp [e2, e2', hz1])]
  rw [sSeq_nx (m1 := sExt 1 _) (ρ' := [some (.val (dWin W)), some (.own (.str z1 :: .str z2 :: zs)), none, none, none, none, none, none]) (S' := S) (by simp [vis_cons, e3, hz])]
  simp [e5]
end Wk
end
section
set_option Elab.async false
set_option linter.all false
set_option maxRecDepth 100000
set_option maxHeartbeats 800000
/-! P16: texts of nets. Own work. -/
namespace Wk
open PySem J
def layL (l : Lay) : List Str := l.q.map (ln "query") ++ l.k.map (ln "key") ++ l.v.map (ln "worth") ++ l.m.map (ln "mix")
def netL (N : Net) : List Str := ln "net" [(N.many : Int), (N.d : Int)] :: (N.em.map (ln "embed") ++ N.pl.map (ln "place") ++ N.ls.flatMap layL ++ N.ou.map (ln "out"))
theorem Vn.s3 {d : Nat} {l : List Int} (h : Vn 3 d l) (hd : d ≤ 2) : S3 l := ⟨by have := h.1; omega, fun i hi => by have := h.2 i hi; omega⟩
theorem layL_len {d : Nat} {l : Lay} (h : LayOk d l) : (layL l).length = 4 * d := by
  simp [layL, h.q.1, h.k.1, h.v.1, h.m.1]; omega
theorem flat_len {d : Nat} : ∀ {ls : List Lay}, (∀ l ∈ ls, LayOk d l) → (ls.flatMap layL).length = ls.length * (4 * d)
  | [], _ => by simp
  | l :: ls, h => by
    rw [List.flatMap_cons, List.length_append, layL_len (h l List.mem_cons_self), flat_len fun x hx => h x (List.mem_cons_of_mem _ hx), List.length_cons, Nat.add_mul]
    omega
theorem NetOk.two {N : Net} (h : NetOk N) : S3 [(N.many : Int), (N.d : Int)] := ⟨by simp, fun i hi => by
  have := h.many
  have := h.d
  simp only [List.mem_cons, List.not_mem_nil, or_false] at hi
  omega⟩
/-- every line of a net is a word with short numbers -/
theorem netL_mem {N : Net} (h : NetOk N) : ∀ x ∈ netL N, ∃ w l, x = ln w l ∧ S3 l ∧ w.length ≤ 10 ∧ 10 ∉ TL.tl w := fun x hx => by
  have hd := h.d
  have lk := len_kind
  have nk := nl_kind
  have mp : ∀ (w : Str) (M : List (List Int)), w.length ≤ 10 → 10 ∉ TL.tl w → (∀ r ∈ M, Vn 3 N.d r) → x ∈ M.map (ln w) → ∃ w l, x = ln w l ∧ S3 l ∧ w.length ≤ 10 ∧ 10 ∉ TL.tl w := fun w M h1 h2 h3 hm => by
    obtain ⟨r, hr, rfl⟩ := List.mem_map.mp hm
    exact ⟨w, r, rfl, (h3 r hr).s3 hd.2, h1, h2⟩
  rcases List.mem_cons.mp hx with rfl | hx
  · exact ⟨_, _, rfl, h.two, by omega, nk.2.2.2.1⟩
  rcases List.mem_append.mp hx with hx | hx
  rcases List.mem_append.mp hx with hx | hx
  rcases List.mem_append.mp hx with hx | hx
  · exact mp _ _ (by omega) nk.2.2.2.2.1 h.emr hx
  · exact mp _ _ (by omega) nk.2.2.2.2.2.1 h.plr hx
  · obtain ⟨l, hl, hx⟩ := List.mem_flatMap.mp hx
    have ho := h.ls l hl
    rcases List.mem_append.mp hx with hx | hx
    rcases List.mem_append.mp hx with hx | hx
    rcases List.mem_append.mp hx with hx | hx
    · exact mp _ _ (by omega) nk.2.2.2.2.2.2.2.1 ho.q.2 hx
    · exact mp _ _ (by omega) nk.2.2.2.2.2.2.2.2.1 ho.k.2 hx
    · exact mp _ _ (by omega) nk.2.2.2.2.2.2.2.2.2.1 ho.v.2 hx
    · exact mp _ _ (by omega) nk.2.2.2.2.2.2.2.2.2.2.1 ho.m.2 hx
  · exact mp _ _ (by omega) nk.2.2.2.2.2.2.1 h.our hx
theorem netL_len {N : Net} (h : NetOk N) : (netL N).length ≤ 100 := by
  have h1 := flat_len h.ls
  have h2 := h.lsl
  have h3 := h.d
  have h4 := h.pl0
  have h5 := h.many
  have h6 : N.ls.length * (4 * N.d) ≤ 3 * (4 * 2) := Nat.mul_le_mul h2 (by omega)
  simp only [netL, List.length_cons, List.length_append, List.length_map, h1, h.eml, h.oul]
  omega
theorem netL_ok {N : Net} (h : NetOk N) : LinesOk (netL N) := by
  refine ⟨by simp [netL], by have := netL_len h; omega, fun x hx => ?_, fun x hx => ?_⟩
  · obtain ⟨w, l, rfl, a, b, c⟩ := netL_mem h x hx
    have := ln_len3 (w := w) a; omega
  · obtain ⟨w, l, rfl, a, b, c⟩ := netL_mem h x hx
    exact nl_ok c
/-! ### the program's lines -/
def mlBody : SM := (sExt 6 (eL (fLc (iSeq (eVar 17)) [14] (.nm 14) (tT) (eF m_words_of (aCons (eVar 16) (aCons (eVar 14) (aNil)))))))
theorem ml_step {S : Sto} {w : Str} {M : List (List Int)} (hM : ∀ r ∈ M, Sz r) (hw : w.length ≤ 10) (v0 v1 v2 v9 v10 v11 v12 v13 v15 : D) (acc : List D) (hz : acc.length + M.length ≤ 10000) :
    mlBody [some (.val v0), some (.val v1), some (.val v2), none, none, none, some (.own acc), none, none, some (.val v9), some (.val v10), some (.val v11), some (.val v12), some (.val v13), none, some (.val v15), some (.val (.str w)), some (.val (dII M))] S =
      some ((.nx, [some (.val v0), some (.val v1), some (.val v2), none, none, none, some (.own (acc ++ (M.map (ln w)).map D.str)), none, none, some (.val v9), some (.val v10), some (.val v11), some (.val v12), some (.val v13), none, some (.val v15), some (.val (.str w)), some (.val (dII M))]), S) := by
  have e := lc_lines (a := eVar 16) (j := 14) (ρ := [some v0, some v1, some v2, none, none, none, none, none, none, some v9, some v10, some v11, some v12, some v13, none, some v15, some (.str w), some (dII M)]) (w := w) (M := M) (S := S) (by simp) (fun x => rfl) hM (by omega)
  have hz2 : acc.length + ((M.map (ln w)).map D.str).length ≤ sizeLine := line_small (by simp; omega)
  generalize (M.map (ln w)).map D.str = zs at *
  simp [mlBody, vis_cons, e, hz2]
def mlLay : SM := (sFor (iZip (eC (.ct (([("query" : PySem.Str), ("key" : PySem.Str), ("worth" : PySem.Str), ("mix" : PySem.Str)] : List PySem.Str).map D.str))) (eVar 15)) (.tp [.nm 16, .nm 17]) mlBody)
theorem ml_lay {S : Sto} {d : Nat} {l : Lay} (hl : LayOk d l) (hd : d ≤ 2) (v0 v1 v2 v9 v10 v11 v12 v13 : D) (acc : List D) (hz : acc.length ≤ 1000) (o16 o17 : Option LV) :
    mlLay [some (.val v0), some (.val v1), some (.val v2), none, none, none, some (.own acc), none, none, some (.val v9), some (.val v10), some (.val v11), some (.val v12), some (.val v13), none, some (.val (dLay l)), o16, o17] S =
      some ((.nx, [some (.val v0), some (.val v1), some (.val v2), none, none, none, some (.own (acc ++ (layL l).map D.str)), none, none, some (.val v9), some (.val v10), some (.val v11), some (.val v12), some (.val v13), none, some (.val (dLay l)), some (.val (.str "mix")), some (.val (dII l.m))]), S) := by
  have lk := len_kind
  have sz : ∀ {M : List (List Int)}, Mn 3 d M → ∀ r ∈ M, Sz r := fun h r hr => ((h.2 r hr).s3 hd).sz
  have s1 := ml_step (S := S) (w := "query") (sz hl.q) (by omega) v0 v1 v2 v9 v10 v11 v12 v13 (dLay l) acc (by have := hl.q.1; omega)
  have s2 := ml_step (S := S) (w := "key") (sz hl.k) (by omega) v0 v1 v2 v9 v10 v11 v12 v13 (dLay l) (acc ++ (l.q.map (ln "query")).map D.str) (by have := hl.k.1; have := hl.q.1; simp; omega)
  have s3 := ml_step (S := S) (w := "worth") (sz hl.v) (by omega) v0 v1 v2 v9 v10 v11 v12 v13 (dLay l) (acc ++ (l.q.map (ln "query")).map D.str ++ (l.k.map (ln "key")).map D.str) (by have := hl.k.1; have := hl.q.1; have := hl.v.1; simp; omega)
  have s4 := ml_step (S := S) (w := "mix") (sz hl.m) (by omega) v0 v1 v2 v9 v10 v11 v12 v13 (dLay l) (acc ++ (l.q.map (ln "query")).map D.str ++ (l.k.map (ln "key")).map D.str ++ (l.v.map (ln "worth")).map D.str) (by have := hl.k.1; have := hl.q.1; have := hl.v.1; have := hl.m.1; simp; omega)
  have e : acc ++ (layL l).map D.str = acc ++ (l.q.map (ln "query")).map D.str ++ (l.k.map (ln "key")).map D.str ++ (l.v.map (ln "worth")).map D.str ++ (l.m.map (ln "mix")).map D.str := by
    simp only [layL, List.map_append, List.append_assoc]
  rw [e]
  generalize (l.q.map (ln "query")).map D.str = a1 at *
  generalize (l.k.map (ln "key")).map D.str = a2 at *
  generalize (l.v.map (ln "worth")).map D.str = a3 at *
  generalize (l.m.map (ln "mix")).map D.str = a4 at *
  unfold mlLay
  generalize mlBody = bd at *
  simp [vis_cons, zipL, sForGo, s1, s2, s3, s4, -List.append_assoc]
theorem ml_loop {S : Sto} {d : Nat} (hd : d ≤ 2) (v0 v1 v2 v9 v10 v11 v12 v13 : D) : ∀ (ls : List Lay) (acc : List D) (o15 o16 o17 : Option LV), (∀ l ∈ ls, LayOk d l) → acc.length + ls.length * 8 ≤ 1000 →
    ∃ o15' o16' o17', sForGo (.nm 15) mlLay (ls.map dLay) [some (.val v0), some (.val v1), some (.val v2), none, none, none, some (.own acc), none, none, some (.val v9), some (.val v10), some (.val v11), some (.val v12), some (.val v13), none, o15, o16, o17] S =
      some ((.nx, [some (.val v0), some (.val v1), some (.val v2), none, none, none, some (.own (acc ++ (ls.flatMap layL).map D.str)), none, none, some (.val v9), some (.val v10), some (.val v11), some (.val v12), some (.val v13), none, o15', o16', o17']), S)
  | [], acc, o15, o16, o17, _, _ => ⟨o15, o16, o17, by simp [sForGo]⟩
  | l :: ls, acc, o15, o16, o17, h, hz => by
    have h1 := h l List.mem_cons_self
    have e := ml_lay (S := S) h1 hd v0 v1 v2 v9 v10 v11 v12 v13 acc (by omega) o16 o17
    have hl := layL_len h1
    obtain ⟨a, b, c, ih⟩ := ml_loop (S := S) hd v0 v1 v2 v9 v10 v11 v12 v13 ls (acc ++ (layL l).map D.str) (some (.val (dLay l))) (some (.val (.str "mix"))) (some (.val (dII l.m))) (fun x hx => h x (List.mem_cons_of_mem _ hx)) (by simp at hz ⊢; omega)
    refine ⟨a, b, c, ?_⟩
    have ef : acc ++ ((l :: ls).flatMap layL).map D.str = acc ++ (layL l).map D.str ++ (ls.flatMap layL).map D.str := by simp
    rw [ef, List.map_cons]
    unfold sForGo
    generalize mlLay = bd at *
    generalize acc ++ (layL l).map D.str = acc2 at *
    generalize acc2 ++ (ls.flatMap layL).map D.str = acc3 at *
    simp [e]
    simpa using ih
end Wk
end
section
set_option Elab.async false
set_option linter.all false
set_option maxRecDepth 100000
set_option maxHeartbeats 800000
/-! P17: texts of nets, by the program and by the law. Own work. -/
namespace Wk
open PySem J
theorem m_lines_net {N : Net} {S : Sto} (h : NetOk N) : m_model_lines [dNet N] S = some (.lst ((netL N).map D.str), S) := by
  have hd := h.d
  have hm := h.many
  have lk := len_kind
  have sz : ∀ {M : List (List Int)}, (∀ r ∈ M, Vn 3 N.d r) → ∀ r ∈ M, Sz r := fun h r hr => ((h r hr).s3 hd.2).sz
  have e0 : m_words_of [.str "net", .tup [.int (N.many : Nat), .int (N.d : Nat)]] S = some (.str (ln "net" [(N.many : Int), (N.d : Int)]), S) := m_words_of_eq rfl h.two.sz (by omega)
  have e1 : ∀ (a b c d e f g i j k l m n o p q r : Option D), lcGo (lcEl [14] (.nm 14) (tT) (eF m_words_of (aCons (eC (.str "embed")) (aCons (eVar 14) (aNil)))) [a, b, c, d, e, f, g, i, j, k, l, m, n, o, none, p, q, r]) (N.em.map dI) S = some ((N.em.map (ln "embed")).map D.str, S) := fun a b c d e f g i j k l m n o p q r => lc_lines (by simp) (fun x => rfl) (sz h.emr) (by omega)
  have e2 : ∀ (a b c d e f g i j k l m n o p q r : Option D), lcGo (lcEl [14] (.nm 14) (tT) (eF m_words_of (aCons (eC (.str "place")) (aCons (eVar 14) (aNil)))) [a, b, c, d, e, f, g, i, j, k, l, m, n, o, none, p, q, r]) (N.pl.map dI) S = some ((N.pl.map (ln "place")).map D.str, S) := fun a b c d e f g i j k l m n o p q r => lc_lines (by simp) (fun x => rfl) (sz h.plr) (by omega)
  have e3 : ∀ (a b c d e f g i j k l m n o p q r : Option D), lcGo (lcEl [14] (.nm 14) (tT) (eF m_words_of (aCons (eC (.str "out")) (aCons (eVar 14) (aNil)))) [a, b, c, d, e, f, g, i, j, k, l, m, n, o, none, p, q, r]) (N.ou.map dI) S = some ((N.ou.map (ln "out")).map D.str, S) := fun a b c d e f g i j k l m n o p q r => lc_lines (by simp) (fun x => rfl) (sz h.our) (by omega)
  have n1 : ((N.em.map (ln "embed")).map D.str).length ≤ 6 := by simp [h.eml]; omega
  have n2 : ((N.pl.map (ln "place")).map D.str).length ≤ 3 := by have := h.pl0; simp; omega
  have n3 : ((N.ou.map (ln "out")).map D.str).length ≤ 6 := by simp [h.oul]; omega
  have n4 : ((N.ls.flatMap layL).map D.str).length ≤ 24 := by
    rw [List.length_map, flat_len h.ls]
    have : N.ls.length * (4 * N.d) ≤ 3 * (4 * 2) := Nat.mul_le_mul h.lsl (by omega)
    omega
  have hls := h.lsl
  obtain ⟨o15, o16, o17, hl⟩ := ml_loop (S := S) hd.2 (dNet N) (.str "net") (.int (N.many : Nat)) (.int (N.d : Nat)) (dII N.em) (dII N.pl) (.tup (N.ls.map dLay)) (dII N.ou) N.ls ([D.str (ln "net" [(N.many : Int), (N.d : Int)])] ++ ((N.em.map (ln "embed")).map D.str ++ (N.pl.map (ln "place")).map D.str)) none none none h.ls (by simp only [List.length_append, List.length_cons, List.length_nil] at *; omega)
  have en : (netL N).map D.str = [D.str (ln "net" [(N.many : Int), (N.d : Int)])] ++ ((N.em.map (ln "embed")).map D.str ++ (N.pl.map (ln "place")).map D.str) ++ (N.ls.flatMap layL).map D.str ++ (N.ou.map (ln "out")).map D.str := by
    simp only [netL, List.map_cons, List.map_append, List.cons_append, List.nil_append, List.append_assoc]
  rw [en]
  generalize ln "net" [(N.many : Int), (N.d : Int)] = z0 at *
  generalize (N.em.map (ln "embed")).map D.str = z1 at *
  generalize (N.pl.map (ln "place")).map D.str = z2 at *
  generalize (N.ou.map (ln "out")).map D.str = z3 at *
  generalize (N.ls.flatMap layL).map D.str = z4 at *
  have a1 : dAdd (.lst z1) (.lst z2) = some (.lst (z1 ++ z2)) := by rw [dAdd_lst, if_pos (line_small (by omega))]
  have a2 : 1 + (z1 ++ z2).length ≤ sizeLine := line_small (by simp; omega)
  have a3 : dAdd (.lst ([D.str z0] ++ (z1 ++ z2) ++ z4)) (.lst z3) = some (.lst ([D.str z0] ++ (z1 ++ z2) ++ z4 ++ z3)) := by rw [dAdd_lst, if_pos (line_small (by simp; omega))]
  have e4 : ¬ (("net" : Str) = "window") := by decide +kernel
  refine run_ret (o := kill [some (.val (dNet N)), some (.val (.str "net")), some (.val (.int (N.many : Nat))), none, none, none, some (.own ([D.str z0] ++ (z1 ++ z2) ++ z4)), none, none, some (.val (.int (N.d : Nat))), some (.val (dII N.em)), some (.val (dII N.pl)), some (.val (.tup (N.ls.map dLay))), some (.val (dII N.ou)), none, o15, o16, o17]) rfl ?_
  show (sSeq (sIf _ _ _) (sSeq _ (sSeq _ (sSeq _ (sSeq _ _))))) [some (.val (dNet N)), none, none, none, none, none, none, none, none, none, none, none, none, none, none, none, none, none] S = _
  rw [sSeq_nx (m1 := sIf _ _ _) (ρ' := [some (.val (dNet N)), none, none, none, none, none, none, none, none, none, none, none, none, none, none, none, none, none]) (S' := S) (sIf_f (S1 := S) (by simp [e4]) rfl)]
  rw [sSeq_nx (m1 := sAsg _ _) (ρ' := [some (.val (dNet N)), some (.val (.str "net")), some (.val (.int (N.many : Nat))), none, none, none, none, none, none, some (.val (.int (N.d : Nat))), some (.val (dII N.em)), some (.val (dII N.pl)), some (.val (.tup (N.ls.map dLay))), some (.val (dII N.ou)), none, none, none, none]) (S' := S) (by simp)]
  rw [sSeq_nx (m1 := sOwn _ _) (ρ' := [some (.val (dNet N)), some (.val (.str "net")), some (.val (.int (N.many : Nat))), none, none, none, some (.own [.str z0]), none, none, some (.val (.int (N.d : Nat))), some (.val (dII N.em)), some (.val (dII N.pl)), some (.val (.tup (N.ls.map dLay))), some (.val (dII N.ou)), none, none, none, none]) (S' := S) (by simp [e0])]
  rw [sSeq_nx (m1 := sExt _ _) (ρ' := [some (.val (dNet N)), some (.val (.str "net")), some (.val (.int (N.many : Nat))), none, none, none, some (.own ([D.str z0] ++ (z1 ++ z2))), none, none, some (.val (.int (N.d : Nat))), some (.val (dII N.em)), some (.val (dII N.pl)), some (.val (.tup (N.ls.map dLay))), some (.val (dII N.ou)), none, none, none, none]) (S' := S) (by
    simp only [sExt_ev, J.e2_ev, eL_ev, fLc_ev, iSeq_ev, eVar_ev, vis_val, vis_none, vis_own, vis_nil, List.getElem?_cons_zero, List.getElem?_cons_succ, itemsD_tup, Option.bind_some, e1, e2, a1, ownAt_ev]
    rw [if_pos (by simpa using a2)]; rfl)]
  rw [sSeq_nx (m1 := sFor _ _ _) (S' := S) (by
    rw [sFor_ev, show (iSeq (eVar 12)) (vis _) S = some (N.ls.map dLay, S) by simp]
    exact hl)]
  rw [sRet_ev, J.e2_ev, eVar_at (d := .lst ([D.str z0] ++ (z1 ++ z2) ++ z4)) (by simp [fz_cons])]
  simp only [eL_ev, fLc_ev, iSeq_ev, eVar_ev, fz_cons, fz_nil, Option.map_some, Option.map_none, LV.d_val, List.getElem?_cons_zero, List.getElem?_cons_succ, itemsD_tup, Option.bind_some, e3, a3]
theorem m_text_net {N : Net} {S : Sto} (h : NetOk N) : m_model_text [dNet N] S = some (.str (Txt.join "\n" (netL N)), S) := by
  have e1 := m_is_model_value_net (S := S) h
  have e2 := m_lines_net (S := S) h
  have e3 := (netL_ok h).join
  generalize Txt.join "\n" (netL N) = z at *
  generalize (netL N).map D.str = zs at *
  simp [m_model_text, runDef, b_model_text, m_need_model, b_need_model, e1, e2, e3]
/-! ### the law's text -/
def ltBody : SM := (sExt 1 (eL (fLc (iSeq (eVar 7)) [4] (.nm 4) (tT) (e2 dAdd (eVar 6) (eF m__law_words (aCons (eVar 4) (aNil)))))))
theorem lt_step {S : Sto} {w : Str} {M : List (List Int)} (hM : ∀ r ∈ M, Sz r) (hw : w.length ≤ 10) (v0 v5 : D) (acc : List D) (hz : acc.length + M.length ≤ 10000) :
    ltBody [some (.val v0), some (.own acc), none, none, none, some (.val v5), some (.val (.str w)), some (.val (dII M))] S =
      some ((.nx, [some (.val v0), some (.own (acc ++ (M.map (ln w)).map D.str)), none, none, none, some (.val v5), some (.val (.str w)), some (.val (dII M))]), S) := by
  have e := lc_llines (a := eVar 6) (j := 4) (ρ := [some v0, none, none, none, none, some v5, some (.str w), some (dII M)]) (w := w) (M := M) (S := S) (by simp) (fun x => rfl) hM (by omega)
  have hz2 : acc.length + ((M.map (ln w)).map D.str).length ≤ sizeLine := line_small (by simp; omega)
  generalize (M.map (ln w)).map D.str = zs at *
  simp [ltBody, vis_cons, e, hz2]
def ltLay : SM := (sFor (iZip (eTup (aCons (eC (.str "query")) (aCons (eC (.str "key")) (aCons (eC (.str "worth")) (aCons (eC (.str "mix")) (aNil)))))) (eVar 5)) (.tp [.nm 6, .nm 7]) ltBody)
theorem lt_lay {S : Sto} {d : Nat} {l : Lay} (hl : LayOk d l) (hd : d ≤ 2) (v0 : D) (acc : List D) (hz : acc.length ≤ 1000) (o16 o17 : Option LV) :
    ltLay [some (.val v0), some (.own acc), none, none, none, some (.val (dLay l)), o16, o17] S =
      some ((.nx, [some (.val v0), some (.own (acc ++ (layL l).map D.str)), none, none, none, some (.val (dLay l)), some (.val (.str "mix")), some (.val (dII l.m))]), S) := by
  have lk := len_kind
  have sz : ∀ {M : List (List Int)}, Mn 3 d M → ∀ r ∈ M, Sz r := fun h r hr => ((h.2 r hr).s3 hd).sz
  have s1 := lt_step (S := S) (w := "query") (sz hl.q) (by omega) v0 (dLay l) acc (by have := hl.q.1; omega)
  have s2 := lt_step (S := S) (w := "key") (sz hl.k) (by omega) v0 (dLay l) (acc ++ (l.q.map (ln "query")).map D.str) (by have := hl.k.1; have := hl.q.1; simp; omega)
  have s3 := lt_step (S := S) (w := "worth") (sz hl.v) (by omega) v0 (dLay l) (acc ++ (l.q.map (ln "query")).map D.str ++ (l.k.map (ln "key")).map D.str) (by have := hl.k.1; have := hl.q.1; have := hl.v.1; simp; omega)
  have s4 := lt_step (S := S) (w := "mix") (sz hl.m) (by omega) v0 (dLay l) (acc ++ (l.q.map (ln "query")).map D.str ++ (l.k.map (ln "key")).map D.str ++ (l.v.map (ln "worth")).map D.str) (by have := hl.k.1; have := hl.q.1; have := hl.v.1; have := hl.m.1; simp; omega)
  have e : acc ++ (layL l).map D.str = acc ++ (l.q.map (ln "query")).map D.str ++ (l.k.map (ln "key")).map D.str ++ (l.v.map (ln "worth")).map D.str ++ (l.m.map (ln "mix")).map D.str := by
    simp only [layL, List.map_append, List.append_assoc]
  rw [e]
  generalize (l.q.map (ln "query")).map D.str = a1 at *
  generalize (l.k.map (ln "key")).map D.str = a2 at *
  generalize (l.v.map (ln "worth")).map D.str = a3 at *
  generalize (l.m.map (ln "mix")).map D.str = a4 at *
  unfold ltLay
  generalize ltBody = bd at *
  simp [vis_cons, zipL, sForGo, s1, s2, s3, s4, -List.append_assoc]
theorem lt_loop {S : Sto} {d : Nat} (hd : d ≤ 2) (v0 : D) : ∀ (ls : List Lay) (acc : List D) (o15 o16 o17 : Option LV), (∀ l ∈ ls, LayOk d l) → acc.length + ls.length * 8 ≤ 1000 →
    ∃ o15' o16' o17', sForGo (.nm 5) ltLay (ls.map dLay) [some (.val v0), some (.own acc), none, none, none, o15, o16, o17] S =
      some ((.nx, [some (.val v0), some (.own (acc ++ (ls.flatMap layL).map D.str)), none, none, none, o15', o16', o17']), S)
  | [], acc, o15, o16, o17, _, _ => ⟨o15, o16, o17, by simp [sForGo]⟩
  | l :: ls, acc, o15, o16, o17, h, hz => by
    have h1 := h l List.mem_cons_self
    have e := lt_lay (S := S) h1 hd v0 acc (by omega) o16 o17
    have hl := layL_len h1
    obtain ⟨a, b, c, ih⟩ := lt_loop (S := S) hd v0 ls (acc ++ (layL l).map D.str) (some (.val (dLay l))) (some (.val (.str "mix"))) (some (.val (dII l.m))) (fun x hx => h x (List.mem_cons_of_mem _ hx)) (by simp at hz ⊢; omega)
    refine ⟨a, b, c, ?_⟩
    have ef : acc ++ ((l :: ls).flatMap layL).map D.str = acc ++ (layL l).map D.str ++ (ls.flatMap layL).map D.str := by simp
    rw [ef, List.map_cons]
    unfold sForGo
    generalize ltLay = bd at *
    generalize acc ++ (layL l).map D.str = acc2 at *
    generalize acc2 ++ (ls.flatMap layL).map D.str = acc3 at *
    simp [e]
    simpa using ih
theorem m_ltext_net {N : Net} {S : Sto} (h : NetOk N) : m__law_model_text [dNet N] S = some (.str (Txt.join "\n" (netL N)), S) := by
  have hd := h.d
  have hm := h.many
  have lk := len_kind
  have sz : ∀ {M : List (List Int)}, (∀ r ∈ M, Vn 3 N.d r) → ∀ r ∈ M, Sz r := fun h r hr => ((h r hr).s3 hd.2).sz
  have e0 : m__law_words [.tup [.int (N.many : Nat), .int (N.d : Nat)]] S = some (.str (lw [(N.many : Int), (N.d : Int)]), S) := m_lwords_eq rfl h.two.sz
  have e0' : dAdd (.str "net") (.str (lw [(N.many : Int), (N.d : Int)])) = some (.str (ln "net" [(N.many : Int), (N.d : Int)])) := by
    rw [dAdd_str (by have := lw_len h.two.sz; omega), lw_ln]
  have e1 : ∀ (a b c d e f g : Option D), lcGo (lcEl [4] (.nm 4) (tT) (J.e2 dAdd (eC (.str "embed")) (eF m__law_words (aCons (eVar 4) (aNil)))) [a, b, c, d, none, e, f, g]) (N.em.map dI) S = some ((N.em.map (ln "embed")).map D.str, S) := fun a b c d e f g => lc_llines (by simp) (fun x => rfl) (sz h.emr) (by omega)
  have e2 : ∀ (a b c d e f g : Option D), lcGo (lcEl [4] (.nm 4) (tT) (J.e2 dAdd (eC (.str "place")) (eF m__law_words (aCons (eVar 4) (aNil)))) [a, b, c, d, none, e, f, g]) (N.pl.map dI) S = some ((N.pl.map (ln "place")).map D.str, S) := fun a b c d e f g => lc_llines (by simp) (fun x => rfl) (sz h.plr) (by omega)
  have e3 : ∀ (a b c d e f g : Option D), lcGo (lcEl [4] (.nm 4) (tT) (J.e2 dAdd (eC (.str "out")) (eF m__law_words (aCons (eVar 4) (aNil)))) [a, b, c, d, none, e, f, g]) (N.ou.map dI) S = some ((N.ou.map (ln "out")).map D.str, S) := fun a b c d e f g => lc_llines (by simp) (fun x => rfl) (sz h.our) (by omega)
  have n1 : ((N.em.map (ln "embed")).map D.str).length ≤ 6 := by simp [h.eml]; omega
  have n2 : ((N.pl.map (ln "place")).map D.str).length ≤ 3 := by have := h.pl0; simp; omega
  have n3 : ((N.ou.map (ln "out")).map D.str).length ≤ 6 := by simp [h.oul]; omega
  have n4 : ((N.ls.flatMap layL).map D.str).length ≤ 24 := by
    rw [List.length_map, flat_len h.ls]
    have : N.ls.length * (4 * N.d) ≤ 3 * (4 * 2) := Nat.mul_le_mul h.lsl (by omega)
    omega
  have hls := h.lsl
  obtain ⟨o15, o16, o17, hl⟩ := lt_loop (S := S) hd.2 (dNet N) N.ls ([D.str (ln "net" [(N.many : Int), (N.d : Int)])] ++ ((N.em.map (ln "embed")).map D.str ++ (N.pl.map (ln "place")).map D.str)) none none none h.ls (by simp only [List.length_append, List.length_cons, List.length_nil] at *; omega)
  have en : (netL N).map D.str = [D.str (ln "net" [(N.many : Int), (N.d : Int)])] ++ ((N.em.map (ln "embed")).map D.str ++ (N.pl.map (ln "place")).map D.str) ++ (N.ls.flatMap layL).map D.str ++ (N.ou.map (ln "out")).map D.str := by
    simp only [netL, List.map_cons, List.map_append, List.cons_append, List.nil_append, List.append_assoc]
  have e5 := (netL_ok h).join
  rw [en] at e5
  generalize Txt.join "\n" (netL N) = zz at *
  generalize ln "net" [(N.many : Int), (N.d : Int)] = z0 at *
  generalize lw [(N.many : Int), (N.d : Int)] = y0 at *
  generalize (N.em.map (ln "embed")).map D.str = z1 at *
  generalize (N.pl.map (ln "place")).map D.str = z2 at *
  generalize (N.ou.map (ln "out")).map D.str = z3 at *
  generalize (N.ls.flatMap layL).map D.str = z4 at *
  have a1 : dAdd (.lst z1) (.lst z2) = some (.lst (z1 ++ z2)) := by rw [dAdd_lst, if_pos (line_small (by omega))]
  have a2 : 1 + (z1 ++ z2).length ≤ sizeLine := line_small (by simp; omega)
  have a3 : dAdd (.lst ([D.str z0] ++ (z1 ++ z2) ++ z4)) (.lst z3) = some (.lst ([D.str z0] ++ (z1 ++ z2) ++ z4 ++ z3)) := by rw [dAdd_lst, if_pos (line_small (by simp; omega))]
  have e4 : ¬ (("net" : Str) = "window") := by decide +kernel
  have ec : cutL [D.str "net", .int (N.many : Nat), .int (N.d : Nat), dII N.em, dII N.pl, .tup (N.ls.map dLay), dII N.ou] (some 1) (some 3) = [.int (N.many : Nat), .int (N.d : Nat)] := rfl
  refine run_ret (o := kill [some (.val (dNet N)), some (.own ([D.str z0] ++ (z1 ++ z2) ++ z4)), none, none, none, o15, o16, o17]) rfl ?_
  show (sSeq _ (sSeq (sIf _ _ _) (sSeq _ (sSeq _ _)))) [some (.val (dNet N)), none, none, none, none, none, none, none] S = _
  rw [sSeq_nx (m1 := sOwn 1 _) (ρ' := [some (.val (dNet N)), some (.own [.str z0]), none, none, none, none, none, none]) (S' := S) (by simp [ec, e0, e0'])]
  rw [sSeq_nx (m1 := sIf _ _ _) (ρ' := [some (.val (dNet N)), some (.own [.str z0]), none, none, none, none, none, none]) (S' := S) (sIf_f (S1 := S) (by simp [e4]) rfl)]
  rw [sSeq_nx (m1 := sExt _ _) (ρ' := [some (.val (dNet N)), some (.own ([D.str z0] ++ (z1 ++ z2))), none, none, none, none, none, none]) (S' := S) (by
    simp only [sExt_ev, J.e2_ev, e2S_ev, eC_ev, dIx_tup, atI_3, atI_4, eL_ev, fLc_ev, iSeq_ev, eVar_ev, vis_val, vis_none, vis_own, vis_nil, List.getElem?_cons_zero, List.getElem?_cons_succ, itemsD_tup, Option.bind_some, e1, e2, a1, ownAt_ev]
    rw [if_pos (by simpa using a2)]; rfl)]
  rw [sSeq_nx (m1 := sFor _ _ _) (S' := S) (by
    rw [sFor_ev, show (iSeq (e2S dIx (eVar 0) (eC (.int 5)))) (vis _) S = some (N.ls.map dLay, S) by simp]
    exact hl)]
  rw [sRet_ev, J.e2_ev, eC_ev]
  simp only [Option.bind_some]
  rw [J.e2_ev, eVar_at (d := .lst ([D.str z0] ++ (z1 ++ z2) ++ z4)) (by simp [fz_cons])]
  simp only [e2S_ev, eC_ev, dIx_tup, atI_6, eL_ev, fLc_ev, iSeq_ev, eVar_ev, fz_cons, fz_nil, Option.map_some, Option.map_none, LV.d_val, List.getElem?_cons_zero, List.getElem?_cons_succ, itemsD_tup, Option.bind_some, e3, a3, e5]
end Wk
end
section
set_option Elab.async false
set_option linter.all false
set_option maxRecDepth 100000
set_option maxHeartbeats 800000
/-! P18: windows, read back. Own work. -/
namespace Wk
open PySem J
theorem tl_join_sp : ∀ (l : List Int) (i : Int), TL.tl (Txt.join " " ((i :: l).map strI)) = digL i ++ spL l := fun l i => by
  rw [TL.join_eq, TL.tl_join, tl_sp, List.map_cons, List.map_cons, List.map_map, ← joinL_sp, tl_strI]
  congr 2
  exact List.map_congr_left fun i _ => tl_strI i
theorem row_join (w : Str) (l ws : List Int) : ln (ln w l ++ ":") ws = Txt.join ":" [ln w l, lw ws] := TL.ext_tl (by
  rw [TL.join_eq, TL.tl_join, tl_ln, TL.tl_append, tl_co]
  simp only [List.map_cons, List.map_nil, TL.joinL, tl_lw, List.append_assoc])
theorem lw_cut1 {l : List Int} (h : l ≠ []) : L2.cutS (lw l) none (some 1) = " " := TL.ext_tl (by
  cases l with
  | nil => exact absurd rfl h
  | cons i l =>
    rw [tl_cut, tl_lw, tl_sp, show (1 : Int) = ((1 : Nat) : Int) from rfl, cut_take]
    simp [spL])
theorem lw_cut2 {l : List Int} (h : l ≠ []) : L2.cutS (lw l) (some 1) none = Txt.join " " (l.map strI) := TL.ext_tl (by
  cases l with
  | nil => exact absurd rfl h
  | cons i l =>
    rw [tl_cut, tl_lw, tl_join_sp, show (1 : Int) = ((1 : Nat) : Int) from rfl, cut_drop]
    simp [spL])
theorem m_entry_eq {e : Pr} {S : Sto} (h1 : S3 e.1) (h2 : S3 e.2) (h0 : e.2 ≠ []) : m_entry_of [.str (ln (ln "after" e.1 ++ ":") e.2)] S = some (dPr e, S) := by
  have lk := len_kind
  have l1 := ln_len3 (w := "after") h1
  have l2 := lw_len3 h2
  have l3 := ln_len3 (w := ln "after" e.1 ++ ":") h2
  rw [Str.length_append, len_co] at l3
  have s : dSplit (.str (ln (ln "after" e.1 ++ ":") e.2)) (.str ":") = some (.lst [.str (ln "after" e.1), .str (lw e.2)]) := by
    refine dSplit_eq (ps := [ln "after" e.1, lw e.2]) ?_ (by rw [len_co]; rfl) (by omega) (by simp)
    rw [row_join]
    refine TL.split_join tl_co k_co (by simp) fun p hp => ?_
    simp only [List.mem_cons, List.not_mem_nil, or_false] at hp
    rcases hp with rfl | rfl
    · exact ln_free ⟨by decide, by decide, by decide⟩ (by decide +kernel)
    · rw [tl_lw]; exact spL_free ⟨by decide, by decide, by decide⟩ _
  have z : (lw e.2).length ≤ sizeLine := line_small (by omega)
  have c1 : dSlice (.str (lw e.2)) none (some 1) = some (.str " ") := by
    show (if (lw e.2).length ≤ sizeLine then some (D.str (L2.cutS (lw e.2) none (some 1))) else none) = _
    rw [if_pos z, lw_cut1 h0]
  have c2 : dSlice (.str (lw e.2)) (some 1) none = some (.str (Txt.join " " (e.2.map strI))) := by
    show (if (lw e.2).length ≤ sizeLine then some (D.str (L2.cutS (lw e.2) (some 1) none)) else none) = _
    rw [if_pos z, lw_cut2 h0]
  have b : m_numbers_behind [.str (ln "after" e.1), .str "after"] S = some (dI e.1, S) := by
    rw [m_behind_eq h1.sz (by omega) sp_kind.2.2.1, if_pos rfl]
  have s2 : dSplit (.str (Txt.join " " (e.2.map strI))) (.str " ") = some (.lst ((e.2.map strI).map D.str)) := by
    refine dSplit_eq (TL.split_join tl_sp k_sp (by simpa using h0) fun p hp => ?_) (by rw [len_sp]; rfl) ?_ (by have := h2.few; simp; omega)
    · obtain ⟨i, _, rfl⟩ := List.mem_map.mp hp
      rw [tl_strI]
      exact dig_free ⟨by decide, by decide⟩
    · rw [← lw_cut2 h0]
      have := L2.cutS_length (lw e.2) (some 1) none
      omega
  have i := m_integers_of_eq (S := S) h2.sz.num
  generalize (e.2.map strI).map D.str = ds at *
  generalize Txt.join " " (e.2.map strI) = y at *
  generalize lw e.2 = x at *
  generalize ln (ln "after" e.1 ++ ":") e.2 = r at *
  generalize ln "after" e.1 = q at *
  simp [m_entry_of, runDef, b_entry_of, s, c1, c2, b, s2, i, fz_cons, dIs, isNonD]
theorem Grow.pre : ∀ {a b : List Pr}, Grow (a ++ b) → Grow a
  | [], _, _ => trivial
  | [_], _, _ => trivial
  | x :: y :: r, b, h => ⟨h.1, Grow.pre (a := y :: r) (b := b) h.2⟩
theorem WinOk.pre {W : Win} (h : WinOk W) {a b : List Pr} (e : W.es = a ++ b) : WinOk ⟨W.many, W.k, a, W.df⟩ :=
  ⟨h.many, h.k, fun x hx => h.keys x (by rw [e]; exact List.mem_append_left _ hx), fun x hx => h.ws x (by rw [e]; exact List.mem_append_left _ hx), h.df, (by have := h.grow; rw [e] at this; exact this.pre), by have := h.few; rw [e, List.length_append] at this; simp only; omega⟩
def rwBody : SM := (sSeq (sSet 6 (eF m_entry_of (aCons (eVar 5) (aNil))))
    (sSeq (sSet 7 (eIf (tB (e2 dIs (eVar 6) (eC .non))) (eC .non) (e2 dAdd (e2 dAdd (e3 dSlice (eVar 3) (oNone) (oSome (eC (.int 3)))) (eTup (aCons (e2 dAdd (e2S dIx (eVar 3) (eC (.int 3))) (eTup (aCons (eVar 6) (aNil)))) (aNil)))) (e3 dSlice (eVar 3) (oSome (eC (.int 4))) (oNone)))))
    (sSeq (sIf (tOr (tB (e2 dIs (eVar 7) (eC .non))) (tNot (tB (eF m_is_model_value (aCons (eVar 7) (aNil)))))) (sRet (eTup (aCons (eC .non) (aCons (e2 dAdd (eVar 4) (eC (.int 2))) (aNil))))) (sNop))
    (sSet 3 (eVar 7)))))
theorem rw_step {W : Win} {S : Sto} {a : List Pr} {e : Pr} {b : List Pr} (h : WinOk W) (he : W.es = a ++ e :: b) (v0 v1 v2 v4 : D) (o6 o7 : Option LV) :
    rwBody [some (.val v0), some (.val v1), some (.val v2), some (.val (dWin ⟨W.many, W.k, a, W.df⟩)), some (.val v4), some (.val (.str (ln (ln "after" e.1 ++ ":") e.2))), o6, o7] S =
      some ((.nx, [some (.val v0), some (.val v1), some (.val v2), some (.val (dWin ⟨W.many, W.k, a ++ [e], W.df⟩)), some (.val v4), some (.val (.str (ln (ln "after" e.1 ++ ":") e.2))), some (.val (dPr e)), some (.val (dWin ⟨W.many, W.k, a ++ [e], W.df⟩))]), S) := by
  have hm := h.many
  have hk := h.k
  have hmem : e ∈ W.es := by rw [he]; exact List.mem_append_right _ List.mem_cons_self
  have s1 := (h.keys e hmem).1.s3 hm.2 (by have := (h.keys e hmem).2; omega)
  have s2 := (h.ws e hmem).s3 hm.2
  have e1 := m_entry_eq (S := S) (e := e) s1 s2 (fun z => by have := (h.ws e hmem).1; rw [z] at this; simp at this; omega)
  have ok := h.pre (a := a ++ [e]) (b := b) (by rw [he]; simp)
  have e2 := m_is_model_value_win (S := S) ok
  have ha : a.length ≤ 4 := by have := h.few; rw [he, List.length_append] at this; omega
  have z1 : (a.map dPr).length + 1 ≤ sizeLine := line_small (by simp; omega)
  have z3 : 3 + 1 ≤ sizeLine := line_small (by omega)
  have z4 : 4 + 1 ≤ sizeLine := line_small (by omega)
  have c1 : cutL [D.str "window", .int (W.many : Nat), .int (W.k : Nat), .tup (a.map dPr), dI W.df] none (some 3) = [D.str "window", .int (W.many : Nat), .int (W.k : Nat)] := rfl
  have c2 : cutL [D.str "window", .int (W.many : Nat), .int (W.k : Nat), .tup (a.map dPr), dI W.df] (some 4) none = [dI W.df] := rfl
  have em : (a ++ [e]).map dPr = a.map dPr ++ [dPr e] := by simp
  unfold dWin at e2 ⊢
  simp only [em] at e2 ⊢
  generalize ln (ln "after" e.1 ++ ":") e.2 = r at *
  unfold dWin at c1 c2
  generalize a.map dPr = as at *
  have hpe : dIs (dPr e) .non = some (.bl false) := rfl
  generalize dPr e = pe at *
  unfold rwBody
  rw [sSeq_nx (m1 := sSet 6 _) (ρ' := [some (.val v0), some (.val v1), some (.val v2), some (.val (.tup [.str "window", .int (W.many : Nat), .int (W.k : Nat), .tup as, dI W.df])), some (.val v4), some (.val (.str r)), some (.val pe), o7]) (S' := S) (by simp [vis_cons, e1])]
  rw [sSeq_nx (m1 := sSet 7 _) (ρ' := [some (.val v0), some (.val v1), some (.val v2), some (.val (.tup [.str "window", .int (W.many : Nat), .int (W.k : Nat), .tup as, dI W.df])), some (.val v4), some (.val (.str r)), some (.val pe), some (.val (.tup [.str "window", .int (W.many : Nat), .int (W.k : Nat), .tup (as ++ [pe]), dI W.df]))]) (S' := S) (by simp [vis_cons, hpe, c1, c2, z1, z3, z4])]
  rw [sSeq_nx (m1 := sIf _ _ _) (ρ' := [some (.val v0), some (.val v1), some (.val v2), some (.val (.tup [.str "window", .int (W.many : Nat), .int (W.k : Nat), .tup as, dI W.df])), some (.val v4), some (.val (.str r)), some (.val pe), some (.val (.tup [.str "window", .int (W.many : Nat), .int (W.k : Nat), .tup (as ++ [pe]), dI W.df]))]) (S' := S) (by simp [vis_cons, dIs, isNonD, e2])]
  simp [vis_cons]
theorem rw_loop {W : Win} {S : Sto} (h : WinOk W) (v0 v1 v2 : D) : ∀ (b a : List Pr) (n : Nat) (o4 o5 o6 o7 : Option LV), W.es = a ++ b →
    ∃ o4' o5' o6' o7', sForGo (.tp [.nm 4, .nm 5]) rwBody (enumL n ((b.map fun e => ln (ln "after" e.1 ++ ":") e.2).map D.str)) [some (.val v0), some (.val v1), some (.val v2), some (.val (dWin ⟨W.many, W.k, a, W.df⟩)), o4, o5, o6, o7] S =
      some ((.nx, [some (.val v0), some (.val v1), some (.val v2), some (.val (dWin W)), o4', o5', o6', o7']), S)
  | [], a, n, o4, o5, o6, o7, he => ⟨o4, o5, o6, o7, by
      have : W = ⟨W.many, W.k, a, W.df⟩ := by
        cases W; simp only at he; rw [List.append_nil] at he; rw [he]
      rw [← this]
      simp [enumL, sForGo]⟩
  | e :: b, a, n, o4, o5, o6, o7, he => by
    have s := rw_step (S := S) h he v0 v1 v2 (.int (n : Nat)) o6 o7
    obtain ⟨x4, x5, x6, x7, ih⟩ := rw_loop (S := S) h v0 v1 v2 b (a ++ [e]) (n + 1) (some (.val (.int (n : Nat)))) (some (.val (.str (ln (ln "after" e.1 ++ ":") e.2)))) (some (.val (dPr e))) (some (.val (dWin ⟨W.many, W.k, a ++ [e], W.df⟩))) (by rw [he]; simp)
    refine ⟨x4, x5, x6, x7, ?_⟩
    rw [List.map_cons, List.map_cons, enumL]
    unfold sForGo
    generalize dWin ⟨W.many, W.k, a ++ [e], W.df⟩ = d2 at *
    generalize dWin ⟨W.many, W.k, a, W.df⟩ = d1 at *
    generalize dWin W = d3 at *
    generalize (b.map fun e => ln (ln "after" e.1 ++ ":") e.2).map D.str = bs at *
    generalize ln (ln "after" e.1 ++ ":") e.2 = r at *
    generalize rwBody = bd at *
    simp [s]
    simpa using ih
theorem m_rwin_eq {W : Win} {S : Sto} (h : WinOk W) : m_read_window_lines [.lst ((winL W).map D.str)] S = some (.tup [dWin W, .non], S) := by
  have hm := h.many
  have hk := h.k
  have lk := len_kind
  have ok0 := h.pre (a := []) (b := W.es) rfl
  have e0 := m_is_model_value_win (S := S) ok0
  have e1 : m_numbers_behind [.str (ln "window" [(W.many : Int), (W.k : Int)]), .str "window"] S = some (dI [(W.many : Int), (W.k : Int)], S) := by
    rw [m_behind_eq h.two.sz (by omega) sp_kind.1, if_pos rfl]
  have e2 : m_numbers_behind [.str (ln "default" W.df), .str "default"] S = some (dI W.df, S) := by
    rw [m_behind_eq (h.df.s3 hm.2).sz (by omega) sp_kind.2.1, if_pos rfl]
  have hdf : dIs (dI W.df) .non = some (.bl false) := rfl
  have hb1 : ¬ ((W.many : Int) < 2) := by omega
  have hb2 : ¬ ((W.k : Int) < 0) := by omega
  have ew : (winL W).map D.str = D.str (ln "window" [(W.many : Int), (W.k : Int)]) :: D.str (ln "default" W.df) :: (W.es.map fun e => ln (ln "after" e.1 ++ ":") e.2).map D.str := rfl
  have hl := fun v0 => rw_loop (S := S) h v0 (dI [(W.many : Int), (W.k : Int)]) (dI W.df) W.es [] 0 none none none none rfl
  rw [ew]
  unfold dWin at e0
  simp only [List.map_nil] at e0
  have ed : dWin ⟨W.many, W.k, [], W.df⟩ = .tup [.str "window", .int (W.many : Nat), .int (W.k : Nat), .tup [], dI W.df] := rfl
  rw [ed] at hl
  have hf := h.few
  have hz : ((W.es.map fun e => ln (ln "after" e.1 ++ ":") e.2).map D.str).length ≤ 4 := by simpa using hf
  generalize ln "window" [(W.many : Int), (W.k : Int)] = z1 at *
  generalize ln "default" W.df = z2 at *
  generalize (W.es.map fun e => ln (ln "after" e.1 ++ ":") e.2).map D.str = zs at *
  generalize dWin W = dw at *
  generalize dI W.df = ddf at *
  have c1 : cutL (D.str z1 :: D.str z2 :: zs) (some 2) none = zs := by
    rw [show (2 : Int) = ((2 : Nat) : Int) from rfl, cut_drop]; rfl
  obtain ⟨o4, o5, o6, o7, hl⟩ := hl (.lst (D.str z1 :: D.str z2 :: zs))
  refine run_ret (o := kill [some (.val (.lst (D.str z1 :: D.str z2 :: zs))), some (.val (dI [(W.many : Int), (W.k : Int)])), some (.val ddf), some (.val dw), o4, o5, o6, o7]) rfl ?_
  show (sSeq _ (sSeq (sIf _ _ _) (sSeq _ (sSeq _ (sSeq (sIf _ _ _) (sSeq _ _)))))) [some (.val (.lst (D.str z1 :: D.str z2 :: zs))), none, none, none, none, none, none, none] S = _
  rw [sSeq_nx (m1 := sSet 1 _) (ρ' := [some (.val (.lst (D.str z1 :: D.str z2 :: zs))), some (.val (dI [(W.many : Int), (W.k : Int)])), none, none, none, none, none, none]) (S' := S) (by simp [e1])]
  rw [sSeq_nx (m1 := sIf _ _ _) (ρ' := [some (.val (.lst (D.str z1 :: D.str z2 :: zs))), some (.val (dI [(W.many : Int), (W.k : Int)])), none, none, none, none, none, none]) (S' := S) (by simp [hb1, hb2])]
  rw [sSeq_nx (m1 := sSet 2 _) (ρ' := [some (.val (.lst (D.str z1 :: D.str z2 :: zs))), some (.val (dI [(W.many : Int), (W.k : Int)])), some (.val ddf), none, none, none, none, none]) (S' := S) (by
    have : (1 : Int) < (zs.length : Int) + 1 + 1 := by omega
    simp [e2, this])]
  rw [sSeq_nx (m1 := sSet 3 _) (ρ' := [some (.val (.lst (D.str z1 :: D.str z2 :: zs))), some (.val (dI [(W.many : Int), (W.k : Int)])), some (.val ddf), some (.val (.tup [.str "window", .int (W.many : Nat), .int (W.k : Nat), .tup [], ddf])), none, none, none, none]) (S' := S) (by
    have z3 : 3 ≤ sizeLine := line_small (by omega)
    have z5 : 5 ≤ sizeLine := line_small (by omega)
    simp [hdf, z3, z5])]
  rw [sSeq_nx (m1 := sIf _ _ _) (ρ' := [some (.val (.lst (D.str z1 :: D.str z2 :: zs))), some (.val (dI [(W.many : Int), (W.k : Int)])), some (.val ddf), some (.val (.tup [.str "window", .int (W.many : Nat), .int (W.k : Nat), .tup [], ddf])), none, none, none, none]) (S' := S) (by simp [dIs, isNonD, e0])]
  rw [sSeq_nx (m1 := sFor _ _ _) (S' := S) (by
    rw [sFor_ev, show (iEnum (e3 dSlice (eVar 0) (oSome (eC (.int 2))) (oNone))) (vis _) S = some (enumL 0 zs, S) by simp [c1]]
    exact hl)]
  simp [fz_cons]
theorem m_read_win {W : Win} {S : Sto} (h : WinOk W) : m_read_model [.str (Txt.join "\n" (winL W))] S = some (dWin W, S) := by
  have lk := len_kind
  have r := m_rows_eq (S := S) (winL_ok h)
  have e := m_rwin_eq (S := S) h
  have e1 : m_numbers_behind [.str (ln "window" [(W.many : Int), (W.k : Int)]), .str "window"] S = some (dI [(W.many : Int), (W.k : Int)], S) := by
    rw [m_behind_eq h.two.sz (by omega) sp_kind.1, if_pos rfl]
  have ew : (winL W).map D.str = D.str (ln "window" [(W.many : Int), (W.k : Int)]) :: D.str (ln "default" W.df) :: (W.es.map fun e => ln (ln "after" e.1 ++ ":") e.2).map D.str := rfl
  rw [ew] at r e
  have hn : dIs (dWin W) .non = some (.bl false) := rfl
  have hn2 : dIsNot (dI [(W.many : Int), (W.k : Int)]) .non = some (.bl true) := rfl
  generalize dI [(W.many : Int), (W.k : Int)] = d1 at *
  generalize dWin W = dw at *
  generalize Txt.join "\n" (winL W) = z at *
  generalize ln "window" [(W.many : Int), (W.k : Int)] = z1 at *
  generalize D.str (ln "default" W.df) :: (W.es.map fun e => ln (ln "after" e.1 ++ ":") e.2).map D.str = zs at *
  have e2 : m_read_model_lines [.lst (D.str z1 :: zs)] S = some (.tup [dw, .non], S) := by
    simp [m_read_model_lines, runDef, b_read_model_lines, e1, hn2, e]
  simp [m_read_model, runDef, b_read_model, r, e2, hn]
end Wk
end
section
set_option Elab.async false
set_option linter.all false
set_option maxRecDepth 100000
set_option maxHeartbeats 800000
/-! P19: lines taken. Own work. -/
namespace Wk
open PySem J
def tkT : Env' → M Bool := (tAnd (tB (e2 dLt (eVar 1) (eN fLen (aCons (eVar 0) (aNil))))) (tB (e2 dLt (eN fLen (aCons (eVar 5) (aNil))) (eVar 3))))
def tkB : SM := (sSeq (sSet 6 (eF m_numbers_behind (aCons (e2S dIx (eVar 0) (eVar 1)) (aCons (eVar 2) (aNil)))))
    (sSeq (sIf (tOr (tB (e2 dIs (eVar 6) (eC .non))) (tB (e2S dNe (eN fLen (aCons (eVar 6) (aNil))) (eVar 4)))) (sBrk) (sNop))
    (sSeq (sApp 5 (eVar 6))
    (sAug 1 dAddI (eC (.int 1))))))
theorem drop_get {α : Type} {l r : List α} {n : Nat} {x : α} (h : l.drop n = x :: r) : l[n]? = some x ∧ l.drop (n + 1) = r ∧ n < l.length := by
  have h1 : n < l.length := by
    rcases Nat.lt_or_ge n l.length with q | q
    · exact q
    · rw [List.drop_of_length_le q] at h; cases h
  have h2 := List.drop_eq_getElem_cons h1
  rw [h] at h2
  injection h2 with h3 h4
  exact ⟨by rw [List.getElem?_eq_getElem h1, h3], h4.symm, h1⟩
theorem tk_test {S : Sto} {rows acc : List D} {n most : Nat} {v2 v4 : D} {o6 : Option LV} : tkT (fz [some (.val (.lst rows)), some (.val (.int (n : Nat))), some (.val v2), some (.val (.int (most : Nat))), some (.val v4), some (.own acc), o6]) S = some (decide (n < rows.length) && decide (acc.length < most), S) := by
  by_cases h : n < rows.length
  · simp [tkT, fz_cons, h]
  · simp [tkT, fz_cons, h]
theorem tk_loop {S : Sto} {rows post : List D} {w : Str} {most d : Nat} (hw : w.length ≤ 10) (hf : 32 ∉ TL.tl w) : ∀ (M : List (List Int)) (n fuel : Nat) (acc : List D) (o6 : Option LV),
    rows.drop n = (M.map (ln w)).map D.str ++ post → (∀ r ∈ M, r.length = d ∧ Sz r) → acc.length + M.length ≤ 1000 → acc.length + M.length ≤ most → M.length + 1 ≤ fuel →
    (acc.length + M.length = most ∨ ∃ x r, post = .str x :: r ∧ m_numbers_behind [.str x, .str w] S = some (.non, S)) →
    ∃ o6', sWhile tkT tkB fuel [some (.val (.lst rows)), some (.val (.int (n : Nat))), some (.val (.str w)), some (.val (.int (most : Nat))), some (.val (.int (d : Nat))), some (.own acc), o6] S =
      some ((.nx, [some (.val (.lst rows)), some (.val (.int ((n + M.length : Nat) : Int))), some (.val (.str w)), some (.val (.int (most : Nat))), some (.val (.int (d : Nat))), some (.own (acc ++ M.map dI)), o6']), S)
  | [], n, 0, acc, o6, hr, hM, hz, hm, hfu, hs => by simp at hfu
  | [], n, fuel + 1, acc, o6, hr, hM, hz, hm, hfu, hs => by
    have hn : n + ([] : List (List Int)).length = n := rfl
    rw [hn, List.map_nil, List.append_nil]
    unfold sWhile
    rw [tk_test]
    by_cases hc : n < rows.length ∧ acc.length < most
    · have hne : ¬ (acc.length + ([] : List (List Int)).length = most) := by simp; omega
      obtain ⟨x, r, hp, hx⟩ := hs.resolve_left hne
      rw [hp] at hr
      obtain ⟨g, _, _⟩ := drop_get (by simpa using hr)
      refine ⟨some (.val .non), ?_⟩
      have gi : L2.atI rows (n : Int) = some (.str x) := by rw [atI_nat]; exact g
      simp [hc.1, hc.2, tkB, vis_cons, gi, hx, dIs, isNonD]
    · refine ⟨o6, ?_⟩
      have : (decide (n < rows.length) && decide (acc.length < most)) = false := by
        rw [Bool.and_eq_false_iff, decide_eq_false_iff_not, decide_eq_false_iff_not]
        omega
      simp only [Option.bind_some, this, Bool.false_eq_true, if_false]
  | v :: M, n, 0, acc, o6, hr, hM, hz, hm, hfu, hs => by simp at hfu
  | v :: M, n, fuel + 1, acc, o6, hr, hM, hz, hm, hfu, hs => by
    rw [List.map_cons, List.map_cons, List.cons_append] at hr
    obtain ⟨g, hr2, hn⟩ := drop_get hr
    have gi : L2.atI rows (n : Int) = some (.str (ln w v)) := by rw [atI_nat]; exact g
    have hv := hM v List.mem_cons_self
    have b : m_numbers_behind [.str (ln w v), .str w] S = some (dI v, S) := by rw [m_behind_eq hv.2 (by omega) hf, if_pos rfl]
    obtain ⟨o, ih⟩ := tk_loop (S := S) (rows := rows) (post := post) (w := w) (most := most) (d := d) hw hf M (n + 1) fuel (acc ++ [dI v]) (some (.val (dI v))) hr2 (fun r hr => hM r (List.mem_cons_of_mem _ hr)) (by simp at hz ⊢; omega) (by simp at hm ⊢; omega) (by simp at hfu ⊢; omega) (by
      rcases hs with q | q
      · exact .inl (by simp at q ⊢; omega)
      · exact .inr q)
    refine ⟨o, ?_⟩
    have e1 : n + (v :: M).length = n + 1 + M.length := by simp; omega
    have e2 : acc ++ (v :: M).map dI = acc ++ [dI v] ++ M.map dI := by simp
    rw [e1, e2]
    generalize acc ++ [dI v] ++ M.map dI = fin at *
    unfold sWhile
    rw [tk_test]
    have hlt : acc.length < most := by simp at hm; omega
    have hzl : acc.length < sizeLine := Nat.lt_of_lt_of_le (show acc.length < 1001 by simp at hz; omega) (line_small (by decide))
    have body : tkB [some (.val (.lst rows)), some (.val (.int (n : Nat))), some (.val (.str w)), some (.val (.int (most : Nat))), some (.val (.int (d : Nat))), some (.own acc), o6] S = some ((.nx, [some (.val (.lst rows)), some (.val (.int ((n + 1 : Nat) : Int))), some (.val (.str w)), some (.val (.int (most : Nat))), some (.val (.int (d : Nat))), some (.own (acc ++ [dI v])), some (.val (dI v))]), S) := by
      have hl : fLen [dI v] = some (.int (d : Nat)) := by simp [hv.1]
      have hi : dIs (dI v) .non = some (.bl false) := rfl
      generalize dI v = dv at *
      unfold tkB
      rw [sSeq_nx (m1 := sSet 6 _) (ρ' := [some (.val (.lst rows)), some (.val (.int (n : Nat))), some (.val (.str w)), some (.val (.int (most : Nat))), some (.val (.int (d : Nat))), some (.own acc), some (.val dv)]) (S' := S) (by simp [vis_cons, gi, b])]
      rw [sSeq_nx (m1 := sIf _ _ _) (ρ' := [some (.val (.lst rows)), some (.val (.int (n : Nat))), some (.val (.str w)), some (.val (.int (most : Nat))), some (.val (.int (d : Nat))), some (.own acc), some (.val dv)]) (S' := S) (by simp [hi, hl])]
      rw [sSeq_nx (m1 := sApp _ _) (ρ' := [some (.val (.lst rows)), some (.val (.int (n : Nat))), some (.val (.str w)), some (.val (.int (most : Nat))), some (.val (.int (d : Nat))), some (.own (acc ++ [dv])), some (.val dv)]) (S' := S) (by simp [hzl])]
      simp [dAddI]
    have ht : (decide (n < rows.length) && decide (acc.length < most)) = true := by
      rw [Bool.and_eq_true, decide_eq_true_eq, decide_eq_true_eq]; exact ⟨hn, hlt⟩
    simp only [Option.bind_some, ht, if_true, body]
    exact ih
theorem m_taken_eq {S : Sto} {rows post : List D} {w : Str} {most d n : Nat} {M : List (List Int)} (hr : rows.drop n = (M.map (ln w)).map D.str ++ post) (hM : ∀ r ∈ M, r.length = d ∧ Sz r) (hw : w.length ≤ 10) (hf : 32 ∉ TL.tl w) (hz : M.length ≤ 1000) (hm : M.length ≤ most)
    (hs : M.length = most ∨ ∃ x r, post = .str x :: r ∧ m_numbers_behind [.str x, .str w] S = some (.non, S)) :
    m_taken_from [.lst rows, .int (n : Nat), .str w, .int (most : Nat), .int (d : Nat)] S = some (.tup [dII M, .int ((n + M.length : Nat) : Int)], S) := by
  obtain ⟨o, hl⟩ := tk_loop (S := S) (rows := rows) (post := post) (most := most) (d := d) hw hf M n 4000 [] none hr hM (by simpa using hz) (by simpa using hm) (by omega) (by simpa using hs)
  rw [List.nil_append] at hl
  refine run_ret (o := kill [some (.val (.lst rows)), some (.val (.int ((n + M.length : Nat) : Int))), some (.val (.str w)), some (.val (.int (most : Nat))), some (.val (.int (d : Nat))), some (.own (M.map dI)), o]) rfl ?_
  show (sSeq (sOwn 5 aNil) (sSeq (sWhile tkT tkB 4000) _)) [some (.val (.lst rows)), some (.val (.int (n : Nat))), some (.val (.str w)), some (.val (.int (most : Nat))), some (.val (.int (d : Nat))), none, none] S = _
  rw [sSeq_nx (m1 := sOwn _ _) (ρ' := [some (.val (.lst rows)), some (.val (.int (n : Nat))), some (.val (.str w)), some (.val (.int (most : Nat))), some (.val (.int (d : Nat))), some (.own []), none]) (S' := S) (by simp)]
  rw [sSeq_nx (m1 := sWhile _ _ _) hl]
  generalize ((n + M.length : Nat) : Int) = q at *
  simp [fz_cons]
end Wk
end
section
set_option Elab.async false
set_option linter.all false
set_option maxRecDepth 100000
set_option maxHeartbeats 800000
/-! P20: nets, read back. Own work. -/
namespace Wk
open PySem J
def lyT : Env' → M Bool := (tAnd (tB (e2 dLt (eVar 5) (eN fLen (aCons (eVar 0) (aNil))))) (tB (e2S dEq (e2S dIx (e2 dSplit (e2S dIx (eVar 0) (eVar 5)) (eC (.str " "))) (eC (.int 0))) (e2S dIx (eC (.ct (([("query" : PySem.Str), ("key" : PySem.Str), ("worth" : PySem.Str), ("mix" : PySem.Str)] : List PySem.Str).map D.str))) (eC (.int 0))))))
def kdB : SM := (sSeq (sAsg (.tp [.nm 10, .nm 5]) (eF m_taken_from (aCons (eVar 0) (aCons (eVar 5) (aCons (eVar 9) (aCons (eVar 3) (aCons (eVar 3) (aNil))))))))
    (sSeq (sIf (tB (e2 dLt (eN fLen (aCons (eVar 10) (aNil))) (eVar 3))) (sRet (eTup (aCons (eC .non) (aCons (eVar 5) (aNil))))) (sNop))
    (sSet 8 (e2 dAdd (eVar 8) (eTup (aCons (eVar 10) (aNil)))))))
def lyB : SM := (sSeq (sSet 8 (eTup (aNil)))
    (sSeq (sFor (iSeq (eC (.ct (([("query" : PySem.Str), ("key" : PySem.Str), ("worth" : PySem.Str), ("mix" : PySem.Str)] : List PySem.Str).map D.str)))) (.nm 9) kdB)
    (sSet 7 (e2 dAdd (eVar 7) (eTup (aCons (eVar 8) (aNil)))))))
theorem kd_step {S : Sto} {rows post acc : List D} {w : Str} {d n : Nat} {M : List (List Int)} (hd : d ≤ 2) (hr : rows.drop n = (M.map (ln w)).map D.str ++ post) (hM : Mn 3 d M) (hw : w.length ≤ 10) (hf : 32 ∉ TL.tl w) (ha : acc.length ≤ 10) (v1 v2 v4 v6 v7 : D) (o10 : Option LV) :
    kdB [some (.val (.lst rows)), some (.val v1), some (.val v2), some (.val (.int (d : Nat))), some (.val v4), some (.val (.int (n : Nat))), some (.val v6), some (.val v7), some (.val (.tup acc)), some (.val (.str w)), o10, none] S =
      some ((.nx, [some (.val (.lst rows)), some (.val v1), some (.val v2), some (.val (.int (d : Nat))), some (.val v4), some (.val (.int ((n + d : Nat) : Int))), some (.val v6), some (.val v7), some (.val (.tup (acc ++ [dII M]))), some (.val (.str w)), some (.val (dII M)), none]), S) := by
  have t := m_taken_eq (S := S) (rows := rows) (post := post) (w := w) (most := d) (d := d) (n := n) (M := M) hr (fun r hr => ⟨(hM.2 r hr).1, ((hM.2 r hr).s3 hd).sz⟩) hw hf (by have := hM.1; omega) (by have := hM.1; omega) (.inl hM.1)
  rw [hM.1] at t
  have hl : fLen [dII M] = some (.int (d : Nat)) := by simp [hM.1]
  have hz : acc.length + 1 ≤ sizeLine := line_small (by omega)
  generalize ((n + d : Nat) : Int) = q at *
  generalize dII M = m at *
  unfold kdB
  rw [sSeq_nx (m1 := sAsg _ _) (ρ' := [some (.val (.lst rows)), some (.val v1), some (.val v2), some (.val (.int (d : Nat))), some (.val v4), some (.val (.int q)), some (.val v6), some (.val v7), some (.val (.tup acc)), some (.val (.str w)), some (.val m), none]) (S' := S) (by simp [vis_cons, t])]
  rw [sSeq_nx (m1 := sIf _ _ _) (ρ' := [some (.val (.lst rows)), some (.val v1), some (.val v2), some (.val (.int (d : Nat))), some (.val v4), some (.val (.int q)), some (.val v6), some (.val v7), some (.val (.tup acc)), some (.val (.str w)), some (.val m), none]) (S' := S) (by simp [hl])]
  simp [hz]
theorem drop_app {α : Type} {l a b : List α} {n : Nat} (h : l.drop n = a ++ b) : l.drop (n + a.length) = b := by
  rw [← List.drop_drop, h, List.drop_left]
theorem ly_body {S : Sto} {rows post acc : List D} {d n : Nat} {l : Lay} (hd : d ≤ 2) (hl : LayOk d l) (hr : rows.drop n = (layL l).map D.str ++ post) (ha : acc.length ≤ 10) (v1 v2 v4 v6 : D) (o8 o9 o10 : Option LV) :
    ∃ o8' o9' o10', lyB [some (.val (.lst rows)), some (.val v1), some (.val v2), some (.val (.int (d : Nat))), some (.val v4), some (.val (.int (n : Nat))), some (.val v6), some (.val (.tup acc)), o8, o9, o10, none] S =
      some ((.nx, [some (.val (.lst rows)), some (.val v1), some (.val v2), some (.val (.int (d : Nat))), some (.val v4), some (.val (.int ((n + 4 * d : Nat) : Int))), some (.val v6), some (.val (.tup (acc ++ [dLay l]))), o8', o9', o10', none]), S) := by
  have lk := len_kind
  have sk := sp_kind
  have len : ∀ (w : Str) {M : List (List Int)}, Mn 3 d M → ((M.map (ln w)).map D.str).length = d := fun w M h => by simp [h.1]
  have r1 : rows.drop n = (l.q.map (ln "query")).map D.str ++ ((l.k.map (ln "key")).map D.str ++ ((l.v.map (ln "worth")).map D.str ++ ((l.m.map (ln "mix")).map D.str ++ post))) := by
    rw [hr]; simp only [layL, List.map_append, List.append_assoc]
  have r2 := drop_app r1
  rw [len "query" hl.q] at r2
  have r3 := drop_app r2
  rw [len "key" hl.k] at r3
  have r4 := drop_app r3
  rw [len "worth" hl.v] at r4
  have s1 := kd_step (S := S) (acc := []) hd r1 hl.q (by omega) sk.2.2.2.2.2.2.2.1 (by simp) v1 v2 v4 v6 (.tup acc) o10
  have s2 := kd_step (S := S) (acc := [dII l.q]) hd r2 hl.k (by omega) sk.2.2.2.2.2.2.2.2.1 (by simp) v1 v2 v4 v6 (.tup acc) (some (.val (dII l.q)))
  have s3 := kd_step (S := S) (acc := [dII l.q, dII l.k]) hd r3 hl.v (by omega) sk.2.2.2.2.2.2.2.2.2.1 (by simp) v1 v2 v4 v6 (.tup acc) (some (.val (dII l.k)))
  have s4 := kd_step (S := S) (acc := [dII l.q, dII l.k, dII l.v]) hd r4 hl.m (by omega) sk.2.2.2.2.2.2.2.2.2.2.1 (by simp) v1 v2 v4 v6 (.tup acc) (some (.val (dII l.v)))
  have e4 : n + d + d + d + d = n + 4 * d := by omega
  rw [e4] at s4
  simp only [List.nil_append, List.cons_append] at s1 s2 s3 s4
  refine ⟨some (.val (dLay l)), some (.val (.str "mix")), some (.val (dII l.m)), ?_⟩
  have hz : acc.length + 1 ≤ sizeLine := line_small (by omega)
  unfold dLay
  generalize dII l.q = q1 at *
  generalize dII l.k = q2 at *
  generalize dII l.v = q3 at *
  generalize dII l.m = q4 at *
  generalize ((n + 4 * d : Nat) : Int) = n4 at *
  generalize ((n + d + d + d : Nat) : Int) = n3 at *
  generalize ((n + d + d : Nat) : Int) = n2 at *
  generalize ((n + d : Nat) : Int) = n1 at *
  unfold lyB
  generalize kdB = bd at *
  rw [sSeq_nx (m1 := sSet 8 _) (ρ' := [some (.val (.lst rows)), some (.val v1), some (.val v2), some (.val (.int (d : Nat))), some (.val v4), some (.val (.int (n : Nat))), some (.val v6), some (.val (.tup acc)), some (.val (.tup [])), o9, o10, none]) (S' := S) (by simp)]
  rw [sSeq_nx (m1 := sFor _ _ _) (ρ' := [some (.val (.lst rows)), some (.val v1), some (.val v2), some (.val (.int (d : Nat))), some (.val v4), some (.val (.int n4)), some (.val v6), some (.val (.tup acc)), some (.val (.tup [q1, q2, q3, q4])), some (.val (.str "mix")), some (.val q4), none]) (S' := S) (by
    simp [sForGo, s1, s2, s3, s4])]
  simp [hz]
theorem ly_test {S : Sto} {rows r : List D} {n : Nat} {w : Str} {l : List Int} (h : rows.drop n = .str (ln w l) :: r) (hs : Sz l) (hw : w.length ≤ 10) (hf : 32 ∉ TL.tl w) (v1 v2 v3 v4 v6 v7 : D) (o8 o9 o10 : Option LV) :
    lyT (fz [some (.val (.lst rows)), some (.val v1), some (.val v2), some (.val v3), some (.val v4), some (.val (.int (n : Nat))), some (.val v6), some (.val v7), o8, o9, o10, none]) S = some (decide (w = "query"), S) := by
  obtain ⟨g, _, hn⟩ := drop_get h
  have gi : L2.atI rows (n : Int) = some (.str (ln w l)) := by rw [atI_nat]; exact g
  have sp := dSplit_ln hs (by omega) hf
  generalize ln w l = z at *
  generalize (l.map strI).map D.str = zs at *
  simp [lyT, fz_cons, hn, gi, sp]
theorem ly_loop {S : Sto} {rows post : List D} {d : Nat} (hd : 1 ≤ d ∧ d ≤ 2) (v1 v2 v4 v6 : D) {l0 : List Int} {p0 : List D} (hp : post = .str (ln "out" l0) :: p0) (h0 : Sz l0) : ∀ (ls : List Lay) (n fuel : Nat) (acc : List D) (o8 o9 o10 : Option LV),
    rows.drop n = (ls.flatMap layL).map D.str ++ post → (∀ l ∈ ls, LayOk d l) → acc.length + ls.length ≤ 10 → ls.length + 1 ≤ fuel →
    ∃ o8' o9' o10', sWhile lyT lyB fuel [some (.val (.lst rows)), some (.val v1), some (.val v2), some (.val (.int (d : Nat))), some (.val v4), some (.val (.int (n : Nat))), some (.val v6), some (.val (.tup acc)), o8, o9, o10, none] S =
      some ((.nx, [some (.val (.lst rows)), some (.val v1), some (.val v2), some (.val (.int (d : Nat))), some (.val v4), some (.val (.int ((n + (ls.flatMap layL).length : Nat) : Int))), some (.val v6), some (.val (.tup (acc ++ ls.map dLay))), o8', o9', o10', none]), S)
  | [], n, 0, acc, o8, o9, o10, hr, hl, hz, hfu => by simp at hfu
  | [], n, fuel + 1, acc, o8, o9, o10, hr, hl, hz, hfu => by
    refine ⟨o8, o9, o10, ?_⟩
    have hq : ¬ (("out" : Str) = "query") := by decide +kernel
    have lk := len_kind
    have t := ly_test (S := S) (rows := rows) (n := n) (w := "out") (l := l0) (r := p0) (by rw [hr, hp]; rfl) h0 (by omega) sp_kind.2.2.2.2.2.2.1 v1 v2 (.int (d : Nat)) v4 v6 (.tup acc) o8 o9 o10
    unfold sWhile
    rw [t, decide_eq_false hq]
    simp
  | l :: ls, n, 0, acc, o8, o9, o10, hr, hl, hz, hfu => by simp at hfu
  | l :: ls, n, fuel + 1, acc, o8, o9, o10, hr, hl, hz, hfu => by
    have lk := len_kind
    have h1 := hl l List.mem_cons_self
    have hr' : rows.drop n = (layL l).map D.str ++ ((ls.flatMap layL).map D.str ++ post) := by rw [hr]; simp
    obtain ⟨x8, x9, x10, eb⟩ := ly_body (S := S) (acc := acc) hd.2 h1 hr' (by simp at hz; omega) v1 v2 v4 v6 o8 o9 o10
    have hr2 := drop_app hr'
    rw [List.length_map, layL_len h1] at hr2
    obtain ⟨y8, y9, y10, ih⟩ := ly_loop (S := S) (rows := rows) (post := post) hd v1 v2 v4 v6 hp h0 ls (n + 4 * d) fuel (acc ++ [dLay l]) x8 x9 x10 hr2 (fun x hx => hl x (List.mem_cons_of_mem _ hx)) (by simp at hz ⊢; omega) (by simp at hfu ⊢; omega)
    refine ⟨y8, y9, y10, ?_⟩
    have e1 : n + ((l :: ls).flatMap layL).length = n + 4 * d + (ls.flatMap layL).length := by rw [List.flatMap_cons, List.length_append, layL_len h1]; omega
    have e2 : acc ++ (l :: ls).map dLay = acc ++ [dLay l] ++ ls.map dLay := by simp
    rw [e1, e2]
    cases hq : l.q with
    | nil => have := h1.q.1; rw [hq] at this; simp at this; omega
    | cons r0 qs =>
      have ht := ly_test (S := S) (rows := rows) (n := n) (w := "query") (l := r0) (r := (qs.map (ln "query")).map D.str ++ ((l.k.map (ln "key")).map D.str ++ ((l.v.map (ln "worth")).map D.str ++ ((l.m.map (ln "mix")).map D.str ++ ((ls.flatMap layL).map D.str ++ post))))) (by
        rw [hr']; simp only [layL, hq, List.map_cons, List.map_append, List.append_assoc, List.cons_append]) ((h1.q.2 r0 (by rw [hq]; exact List.mem_cons_self)).s3 hd.2).sz (by omega) sp_kind.2.2.2.2.2.2.2.1 v1 v2 (.int (d : Nat)) v4 v6 (.tup acc) o8 o9 o10
      unfold sWhile
      rw [ht, decide_eq_true rfl]
      simp only [Option.bind_some, if_true, eb]
      exact ih
end Wk
end
section
set_option Elab.async false
set_option linter.all false
set_option maxRecDepth 100000
set_option maxHeartbeats 800000
/-! P21: nets, read back. Own work. -/
namespace Wk
open PySem J
theorem m_rnet_eq {N : Net} {S : Sto} (h : NetOk N) : m_read_net_lines [.lst ((netL N).map D.str)] S = some (.tup [dNet N, .non], S) := by
  have hd := h.d
  have hm := h.many
  have hp := h.pl0
  have hls := h.lsl
  have lk := len_kind
  have sk := sp_kind
  have rok : ∀ {M : List (List Int)}, (∀ r ∈ M, Vn 3 N.d r) → ∀ r ∈ M, r.length = N.d ∧ Sz r := fun h r hr => ⟨(h r hr).1, ((h r hr).s3 hd.2).sz⟩
  have e1 : m_numbers_behind [.str (ln "net" [(N.many : Int), (N.d : Int)]), .str "net"] S = some (dI [(N.many : Int), (N.d : Int)], S) := by
    rw [m_behind_eq h.two.sz (by omega) sk.2.2.2.1, if_pos rfl]
  have hlen := flat_len h.ls
  have hle := netL_len h
  have tot : (netL N).length = 1 + N.em.length + N.pl.length + (N.ls.flatMap layL).length + N.ou.length := by
    simp only [netL, List.length_cons, List.length_append, List.length_map]; omega
  -- the rows
  have r0 : ((netL N).map D.str).drop 0 = D.str (ln "net" [(N.many : Int), (N.d : Int)]) :: ((N.em.map (ln "embed")).map D.str ++ ((N.pl.map (ln "place")).map D.str ++ ((N.ls.flatMap layL).map D.str ++ ((N.ou.map (ln "out")).map D.str ++ [])))) := by
    simp only [netL, List.map_cons, List.map_append, List.append_assoc, List.drop_zero, List.append_nil]
  obtain ⟨g0, r1, _⟩ := drop_get r0
  have r2 := drop_app r1
  have r3 := drop_app r2
  have r4 := drop_app r3
  simp only [List.length_map, Nat.zero_add] at r1 r2 r3 r4
  have ol : (N.ou.map (ln "out")).map D.str ++ [] ≠ [] := by
    intro z
    have := congrArg List.length z
    simp [h.oul] at this
    omega
  cases hou : N.ou with
  | nil => have := h.oul; rw [hou] at this; simp at this; omega
  | cons w0 ws =>
  have hw0 : Vn 3 N.d w0 := h.our w0 (by rw [hou]; exact List.mem_cons_self)
  -- the line behind the places
  have stop : ∃ x r, (N.ls.flatMap layL).map D.str ++ ((N.ou.map (ln "out")).map D.str ++ []) = .str x :: r ∧ m_numbers_behind [.str x, .str "place"] S = some (.non, S) := by
    cases hl : N.ls with
    | nil =>
      refine ⟨ln "out" w0, (ws.map (ln "out")).map D.str, by simp [hou], ?_⟩
      rw [m_behind_eq (hw0.s3 hd.2).sz (by omega) sk.2.2.2.2.2.2.1, if_neg (by decide +kernel)]
    | cons l ls =>
      have h1 := h.ls l (by rw [hl]; exact List.mem_cons_self)
      cases hq : l.q with
      | nil => have := h1.q.1; rw [hq] at this; simp at this; omega
      | cons q0 qs =>
        refine ⟨ln "query" q0, (qs.map (ln "query")).map D.str ++ ((l.k.map (ln "key")).map D.str ++ ((l.v.map (ln "worth")).map D.str ++ ((l.m.map (ln "mix")).map D.str ++ ((ls.flatMap layL).map D.str ++ ((N.ou.map (ln "out")).map D.str ++ []))))), ?_, ?_⟩
        · simp only [List.flatMap_cons, layL, hq, List.map_cons, List.map_append, List.append_assoc, List.cons_append]
        · rw [m_behind_eq ((h1.q.2 q0 (by rw [hq]; exact List.mem_cons_self)).s3 hd.2).sz (by omega) sk.2.2.2.2.2.2.2.1, if_neg (by decide +kernel)]
  have t1 := m_taken_eq (S := S) (most := N.many) (d := N.d) r1 (rok h.emr) (by omega) sk.2.2.2.2.1 (by have := h.eml; omega) (by have := h.eml; omega) (.inl h.eml)
  have t2 := m_taken_eq (S := S) (most := ((netL N).map D.str).length) (d := N.d) r2 (rok h.plr) (by omega) sk.2.2.2.2.2.1 (by omega) (by rw [List.length_map]; omega) (.inr stop)
  obtain ⟨o8, o9, o10, hl⟩ := ly_loop (S := S) (rows := (netL N).map D.str) (post := (N.ou.map (ln "out")).map D.str ++ []) h.d (dI [(N.many : Int), (N.d : Int)]) (.int (N.many : Nat)) (dII N.em) (dII N.pl) (l0 := w0) (p0 := (ws.map (ln "out")).map D.str) (by simp [hou]) (hw0.s3 hd.2).sz N.ls _ 4000 [] none none none r3 h.ls (by simp; omega) (by omega)
  have t3 := m_taken_eq (S := S) (most := N.many) (d := N.d) r4 (rok h.our) (by omega) sk.2.2.2.2.2.2.1 (by have := h.oul; omega) (by have := h.oul; omega) (.inl h.oul)
  have en : dEq S (dII N.pl) (.tup []) = some (.bl false) := by
    have hpp := PlD.ints2 N.pl
    cases hh : N.pl with
    | nil => rw [hh] at hp; simp at hp
    | cons r rs => rw [hh] at hpp; exact eq_nil (hpp.mono (by omega))
  have fl1 : fLen [dII N.em] = some (.int (N.many : Nat)) := by simp [h.eml]
  have fl2 : fLen [dII N.ou] = some (.int (N.many : Nat)) := by simp [h.oul]
  have fl3 : fLen [.lst ((netL N).map D.str)] = some (.int ((((netL N).map D.str).length : Nat) : Int)) := rfl
  have hend : 1 + N.em.length + N.pl.length + (N.ls.flatMap layL).length + N.ou.length = ((netL N).map D.str).length := by rw [List.length_map, tot]
  rw [hend] at t3
  have hb1 : ¬ ((N.many : Int) < 2) := by omega
  have hb2 : ¬ ((N.d : Int) < 1) := by omega
  rw [List.nil_append] at hl
  have i0 : L2.atI ((netL N).map D.str) 0 = some (.str (ln "net" [(N.many : Int), (N.d : Int)])) := by rw [atI_0]; exact g0
  clear r0 r1 r2 r3 r4 g0 stop ol tot hle hend hou
  unfold dNet
  generalize ((1 + N.em.length + N.pl.length + (N.ls.flatMap layL).length : Nat) : Int) = n3 at *
  generalize ((1 + N.em.length + N.pl.length : Nat) : Int) = n2 at *
  generalize ((1 + N.em.length : Nat) : Int) = n1 at *
  generalize ((((netL N).map D.str).length : Nat) : Int) = nr at *
  generalize (netL N).map D.str = rows at *
  generalize ln "net" [(N.many : Int), (N.d : Int)] = z1 at *
  have t1' : m_taken_from [.lst rows, .int 1, .str "embed", .int (N.many : Nat), .int (N.d : Nat)] S = some (.tup [dII N.em, .int n1], S) := t1
  clear t1
  generalize dII N.em = em at *
  generalize dII N.pl = pl at *
  generalize dII N.ou = ou at *
  generalize N.ls.map dLay = ls at *
  refine run_ret (o := kill [some (.val (.lst rows)), some (.val (dI [(N.many : Int), (N.d : Int)])), some (.val (.int (N.many : Nat))), some (.val (.int (N.d : Nat))), some (.val em), some (.val (.int nr)), some (.val pl), some (.val (.tup ls)), o8, o9, o10, some (.val ou)]) rfl ?_
  show (sSeq _ (sSeq (sIf _ _ _) (sSeq _ (sSeq _ (sSeq (sIf _ _ _) (sSeq _ (sSeq (sIf _ _ _) (sSeq _ (sSeq (sWhile lyT lyB 4000) (sSeq _ (sSeq (sIf _ _ _) _))))))))))) [some (.val (.lst rows)), none, none, none, none, none, none, none, none, none, none, none] S = _
  rw [sSeq_nx (m1 := sSet 1 _) (ρ' := [some (.val (.lst rows)), some (.val (dI [(N.many : Int), (N.d : Int)])), none, none, none, none, none, none, none, none, none, none]) (S' := S) (by
    rw [atI_0] at i0; simp [i0, e1])]
  rw [sSeq_nx (m1 := sIf _ _ _) (ρ' := [some (.val (.lst rows)), some (.val (dI [(N.many : Int), (N.d : Int)])), none, none, none, none, none, none, none, none, none, none]) (S' := S) (by simp [hb1, hb2])]
  rw [sSeq_nx (m1 := sAsg _ _) (ρ' := [some (.val (.lst rows)), some (.val (dI [(N.many : Int), (N.d : Int)])), some (.val (.int (N.many : Nat))), some (.val (.int (N.d : Nat))), none, none, none, none, none, none, none, none]) (S' := S) (by simp)]
  rw [sSeq_nx (m1 := sAsg _ _) (ρ' := [some (.val (.lst rows)), some (.val (dI [(N.many : Int), (N.d : Int)])), some (.val (.int (N.many : Nat))), some (.val (.int (N.d : Nat))), some (.val em), some (.val (.int n1)), none, none, none, none, none, none]) (S' := S) (by simp [vis_cons, t1'])]
  rw [sSeq_nx (m1 := sIf _ _ _) (ρ' := [some (.val (.lst rows)), some (.val (dI [(N.many : Int), (N.d : Int)])), some (.val (.int (N.many : Nat))), some (.val (.int (N.d : Nat))), some (.val em), some (.val (.int n1)), none, none, none, none, none, none]) (S' := S) (by simp [fl1])]
  rw [sSeq_nx (m1 := sAsg _ _) (ρ' := [some (.val (.lst rows)), some (.val (dI [(N.many : Int), (N.d : Int)])), some (.val (.int (N.many : Nat))), some (.val (.int (N.d : Nat))), some (.val em), some (.val (.int n2)), some (.val pl), none, none, none, none, none]) (S' := S) (by simp [vis_cons, fl3, t2, -fLen_lst])]
  rw [sSeq_nx (m1 := sIf _ _ _) (ρ' := [some (.val (.lst rows)), some (.val (dI [(N.many : Int), (N.d : Int)])), some (.val (.int (N.many : Nat))), some (.val (.int (N.d : Nat))), some (.val em), some (.val (.int n2)), some (.val pl), none, none, none, none, none]) (S' := S) (by simp [en])]
  rw [sSeq_nx (m1 := sSet 7 _) (ρ' := [some (.val (.lst rows)), some (.val (dI [(N.many : Int), (N.d : Int)])), some (.val (.int (N.many : Nat))), some (.val (.int (N.d : Nat))), some (.val em), some (.val (.int n2)), some (.val pl), some (.val (.tup [])), none, none, none, none]) (S' := S) (by simp)]
  rw [sSeq_nx (m1 := sWhile _ _ _) hl]
  rw [sSeq_nx (m1 := sAsg _ _) (ρ' := [some (.val (.lst rows)), some (.val (dI [(N.many : Int), (N.d : Int)])), some (.val (.int (N.many : Nat))), some (.val (.int (N.d : Nat))), some (.val em), some (.val (.int nr)), some (.val pl), some (.val (.tup ls)), o8, o9, o10, some (.val ou)]) (S' := S) (by simp [vis_cons, t3])]
  rw [sSeq_nx (m1 := sIf _ _ _) (ρ' := [some (.val (.lst rows)), some (.val (dI [(N.many : Int), (N.d : Int)])), some (.val (.int (N.many : Nat))), some (.val (.int (N.d : Nat))), some (.val em), some (.val (.int nr)), some (.val pl), some (.val (.tup ls)), o8, o9, o10, some (.val ou)]) (S' := S) (by simp [fl2, fl3, vis_cons, -fLen_lst])]
  simp [fz_cons]
theorem m_read_net {N : Net} {S : Sto} (h : NetOk N) : m_read_model [.str (Txt.join "\n" (netL N))] S = some (dNet N, S) := by
  have lk := len_kind
  have r := m_rows_eq (S := S) (netL_ok h)
  have e := m_rnet_eq (S := S) h
  have e1 : m_numbers_behind [.str (ln "net" [(N.many : Int), (N.d : Int)]), .str "window"] S = some (.non, S) := by
    rw [m_behind_eq h.two.sz (by omega) sp_kind.2.2.2.1, if_neg (by decide +kernel)]
  have e2 : m_numbers_behind [.str (ln "net" [(N.many : Int), (N.d : Int)]), .str "net"] S = some (dI [(N.many : Int), (N.d : Int)], S) := by
    rw [m_behind_eq h.two.sz (by omega) sp_kind.2.2.2.1, if_pos rfl]
  have ew : (netL N).map D.str = D.str (ln "net" [(N.many : Int), (N.d : Int)]) :: (N.em.map (ln "embed") ++ N.pl.map (ln "place") ++ N.ls.flatMap layL ++ N.ou.map (ln "out")).map D.str := rfl
  rw [ew] at r e
  have hn : dIs (dNet N) .non = some (.bl false) := rfl
  have hn2 : dIsNot (dI [(N.many : Int), (N.d : Int)]) .non = some (.bl true) := rfl
  have hn3 : dIsNot .non .non = some (.bl false) := rfl
  generalize dI [(N.many : Int), (N.d : Int)] = d1 at *
  generalize dNet N = dw at *
  generalize Txt.join "\n" (netL N) = z at *
  generalize ln "net" [(N.many : Int), (N.d : Int)] = z1 at *
  generalize (N.em.map (ln "embed") ++ N.pl.map (ln "place") ++ N.ls.flatMap layL ++ N.ou.map (ln "out")).map D.str = zs at *
  have e3 : m_read_model_lines [.lst (D.str z1 :: zs)] S = some (.tup [dw, .non], S) := by
    simp [m_read_model_lines, runDef, b_read_model_lines, e1, e2, hn2, hn3, e]
  simp [m_read_model, runDef, b_read_model, r, e3, hn]
end Wk
end
section
set_option Elab.async false
set_option linter.all false
set_option maxRecDepth 100000
set_option maxHeartbeats 800000
/-! P22: vocabularies. Own work. -/
namespace Wk
open PySem J
structure Voc where
  ls : Str
  ms : List (Int × Int)
abbrev dVoc (V : Voc) : D := .tup [.str "vocabulary", .str V.ls, .tup (V.ms.map dPair)]
def nxt (P : List Str) (p : Int × Int) : Str := P.getD p.1.toNat "" ++ P.getD p.2.toNat ""
def pcs (P : List Str) : List (Int × Int) → List Str
  | [] => P
  | p :: r => pcs (P ++ [nxt P p]) r
def base (ls : Str) : List Str := "" :: sgn ls
/-- pairs of numbers from 1 to below n, n + 1 .. -/
def PO : Nat → List (Int × Int) → Prop
  | _, [] => True
  | n, p :: r => ((1 ≤ p.1 ∧ p.1 < (n : Nat)) ∧ (1 ≤ p.2 ∧ p.2 < (n : Nat))) ∧ PO (n + 1) r
structure LetOk (ls : Str) : Prop where
  len : 1 ≤ ls.length ∧ ls.length ≤ 6
  small : ∀ c ∈ TL.tl ls, 97 ≤ c ∧ c ≤ 122
  nd : (sgn ls).Nodup
structure VocOk (V : Voc) : Prop where
  ls : LetOk V.ls
  few : V.ms.length ≤ 10
  po : PO (1 + V.ls.length) V.ms
  nd : (pcs (base V.ls) V.ms).Nodup
  short : ∀ x ∈ pcs (base V.ls) V.ms, x.length ≤ 5000
theorem sgn_len (z : Str) : (sgn z).length = z.length := by simp [sgn, TL.len_tl]
theorem base_len (z : Str) : (base z).length = 1 + z.length := by simp [base, sgn_len]; omega
theorem pcs_app : ∀ (a : List (Int × Int)) (P : List Str) (b : List (Int × Int)), pcs P (a ++ b) = pcs (pcs P a) b
  | [], _, _ => rfl
  | p :: a, P, b => pcs_app a (P ++ [nxt P p]) b
theorem pcs_pre : ∀ (a : List (Int × Int)) (P : List Str), P <+: pcs P a
  | [], P => List.prefix_refl P
  | p :: a, P => (List.prefix_append P [nxt P p]).trans (pcs_pre a (P ++ [nxt P p]))
theorem pcs_len : ∀ (a : List (Int × Int)) (P : List Str), (pcs P a).length = P.length + a.length
  | [], P => by simp [pcs]
  | p :: a, P => by rw [pcs, pcs_len a]; simp; omega
theorem PO.pre : ∀ {n : Nat} {a b : List (Int × Int)}, PO n (a ++ b) → PO n a
  | _, [], _, _ => trivial
  | n, p :: a, b, h => ⟨h.1, PO.pre (a := a) (b := b) h.2⟩
theorem VocOk.pre {V : Voc} (h : VocOk V) {a b : List (Int × Int)} (e : V.ms = a ++ b) : VocOk ⟨V.ls, a⟩ := by
  have hp : pcs (base V.ls) a <+: pcs (base V.ls) V.ms := by rw [e, pcs_app]; exact pcs_pre b _
  exact ⟨h.ls, by have := h.few; rw [e, List.length_append] at this; simp only; omega, by have := h.po; rw [e] at this; exact this.pre, hp.sublist.nodup h.nd, fun x hx => h.short x (hp.subset hx)⟩
theorem cnt_nd {xs : List Str} (h : xs.Nodup) : ∀ i, i ≤ xs.length → cntS xs i = i
  | 0, _ => rfl
  | i + 1, hi => by
    have e : xs.getD i Str.empty = xs[i]'(by omega) := by rw [List.getD_eq_getElem?_getD, List.getElem?_eq_getElem (by omega)]; rfl
    have hn : (xs.take i).any (· == xs.getD i Str.empty) = false := by
      rw [e, List.any_eq_false]
      intro y hy
      obtain ⟨j, hj, rfl⟩ := List.getElem_of_mem hy
      rw [List.getElem_take]
      rw [List.length_take] at hj
      intro hb
      exact List.pairwise_iff_getElem.mp h j i (by omega) (by omega) (by omega) (beq_iff_eq.mp hb)
    rw [cntS, hn, cnt_nd h i (by omega)]
    simp
theorem small26 : TL.tl ("abcdefghijklmnopqrstuvwxyz" : Str) = [97, 98, 99, 100, 101, 102, 103, 104, 105, 106, 107, 108, 109, 110, 111, 112, 113, 114, 115, 116, 117, 118, 119, 120, 121, 122] := by decide +kernel
theorem sz_line {n : Nat} (h : n ≤ 10000) : n ≤ sizeLine := line_small (by omega)
theorem m_letters_eq {z : Str} {S : Sto} (h : LetOk z) : m_are_letters [.str z] S = some (.bl true, S) := by
  have hz : z.length ≤ sizeLine := sz_line (by have := h.len; omega)
  have l : lcGo (lcEl [1] (.nm 1) tT (e2 dIn (eVar 1) (eC (.str "abcdefghijklmnopqrstuvwxyz"))) [some (.str z), none]) (chars z) S = some ((TL.tl z).map fun _ => D.bl true, S) :=
    lcGo_map (fun c : Nat => D.str ⟨#[c]⟩) (fun _ => D.bl true) (TL.tl z) fun e he => lcEl_one rfl (by
      have hr := h.small e he
      have hm : e ∈ TL.tl ("abcdefghijklmnopqrstuvwxyz" : Str) := by
        rw [small26]
        simp only [List.mem_cons, List.not_mem_nil, or_false]
        omega
      have : dInB (.str ⟨#[e]⟩) (.str "abcdefghijklmnopqrstuvwxyz") = some true := by
        show (some (decide (e ∈ TL.tl ("abcdefghijklmnopqrstuvwxyz" : Str)))) = _
        rw [decide_eq_true hm]
      simp [dIn, this])
  have a : fAll [.lst ((TL.tl z).map fun _ => D.bl true)] = some (.bl true) := all_true _
  have it : itemsD (.str z) = some (chars z) := by show (if z.length ≤ sizeLine then some (chars z) else none) = _; rw [if_pos hz]
  have fl : fLen [.str z] = some (.int (z.length : Nat)) := by show (if z.length ≤ sizeLine then some (D.int (z.length : Nat)) else none) = _; rw [if_pos hz]
  have ds : dLenSet (.str z) = some (.int (z.length : Nat)) := by
    show (if z.length < 4000 then some (D.int (cntS (sgn z) (sgn z).length : Nat)) else none) = _
    rw [if_pos (by have := h.len; omega), cnt_nd h.nd _ (Nat.le_refl _), sgn_len]
  have h1 : (1 : Int) ≤ (z.length : Nat) := by have := h.len; omega
  have h2 : ((z.length : Nat) : Int) ≤ 6 := by have := h.len; omega
  simp [m_are_letters, runDef, b_are_letters, isiB, isiT, dTy, it, fl, ds, l, a, h1, h2, -fAll_lst]
theorem m_pair_below_eq {p : Int × Int} {n : Nat} {S : Sto} (h : (1 ≤ p.1 ∧ p.1 < (n : Nat)) ∧ (1 ≤ p.2 ∧ p.2 < (n : Nat))) : m_is_pair_below [dPair p, .int (n : Nat)] S = some (.bl true, S) := by
  have a := m_is_from_int S h.1.1
  have b := m_is_from_int S h.2.1
  have c : fAll [.lst [.bl true, .bl true]] = some (.bl true) := rfl
  simp [m_is_pair_below, runDef, b_is_pair_below, dPair, isiB, isiT, dTy, lcGo, lcEl_tT, a, b, h.1.2, h.2.2, oc, c, -fAll_lst]
def pcB : SM := (sAppF 1 (e2 dAdd (e2S dIx (eVar 1) (eVar 2)) (e2S dIx (eVar 1) (eVar 3))))
theorem pc_loop {S : Sto} (v0 : D) : ∀ (ms : List (Int × Int)) (P : List Str) (o2 o3 : Option LV), PO P.length ms → P.length + ms.length ≤ 1000 → (∀ x ∈ pcs P ms, x.length ≤ 5000) →
    ∃ o2' o3', sForGo (.tp [.nm 2, .nm 3]) pcB (ms.map dPair) [some (.val v0), some (.own (P.map D.str)), o2, o3] S = some ((.nx, [some (.val v0), some (.own ((pcs P ms).map D.str)), o2', o3']), S)
  | [], P, o2, o3, _, _, _ => ⟨o2, o3, rfl⟩
  | p :: ms, P, o2, o3, h, hz, hs => by
    have hl : (P ++ [nxt P p]).length = P.length + 1 := by simp
    obtain ⟨a, b, ih⟩ := pc_loop (S := S) v0 ms (P ++ [nxt P p]) (some (.val (.int p.1))) (some (.val (.int p.2))) (by rw [hl]; exact h.2) (by simp at hz ⊢; omega) hs
    refine ⟨a, b, ?_⟩
    have ix : ∀ i : Int, 1 ≤ i → i < (P.length : Nat) → L2.atI (P.map D.str) i = some (.str (P.getD i.toNat "")) ∧ (P.getD i.toNat "").length ≤ 5000 := fun i h1 h2 => by
      obtain ⟨n, rfl⟩ := Int.eq_ofNat_of_zero_le (show 0 ≤ i by omega)
      have hn : n < P.length := by omega
      refine ⟨by rw [atI_nat, List.getElem?_map, Int.toNat_natCast, getD_at ("" : Str) hn]; rfl, hs _ ((pcs_pre (p :: ms) P).subset (getD_mem ("" : Str) hn))⟩
    obtain ⟨i1, z1⟩ := ix p.1 h.1.1.1 h.1.1.2
    obtain ⟨i2, z2⟩ := ix p.2 h.1.2.1 h.1.2.2
    have ad : dAdd (.str (P.getD p.1.toNat "")) (.str (P.getD p.2.toNat "")) = some (.str (nxt P p)) := dAdd_str (by omega)
    have hz2 : (P.map D.str).length < sizeLine := Nat.lt_of_lt_of_le (show (P.map D.str).length < 1001 by simp at hz ⊢; omega) (line_small (by decide))
    rw [List.map_cons]
    unfold sForGo
    rw [show pcs P (p :: ms) = pcs (P ++ [nxt P p]) ms from rfl]
    have em : (P ++ [nxt P p]).map D.str = P.map D.str ++ [.str (nxt P p)] := by simp
    rw [em] at ih
    generalize (pcs (P ++ [nxt P p]) ms).map D.str = fin at *
    generalize nxt P p = x at *
    generalize P.getD p.1.toNat "" = x1 at *
    generalize P.getD p.2.toNat "" = x2 at *
    generalize P.map D.str = Q at *
    have fl : flatD (.str x) = true := rfl
    have bd : pcB [some (.val v0), some (.own Q), some (.val (.int p.1)), some (.val (.int p.2))] S = some ((.nx, [some (.val v0), some (.own (Q ++ [.str x])), some (.val (.int p.1)), some (.val (.int p.2))]), S) := by
      simp [pcB, i1, i2, ad, fl, hz2]
    simp [dPair, bd]
    exact ih
theorem m_pieces_eq {V : Voc} {S : Sto} (h : VocOk V) : m_pieces_of [dVoc V] S = some (.lst ((pcs (base V.ls) V.ms).map D.str), S) := by
  have hl := h.ls.len
  obtain ⟨a, b, e⟩ := pc_loop (S := S) (dVoc V) V.ms (base V.ls) none none (by rw [base_len]; exact h.po) (by rw [base_len]; have := h.few; omega) h.short
  have hz : V.ls.length ≤ sizeLine := sz_line (by omega)
  have f1 : fList [.str V.ls] = some (.lst ((sgn V.ls).map D.str)) := by
    show (if V.ls.length ≤ sizeLine then some (D.lst ((sgn V.ls).map .str)) else none) = _
    rw [if_pos hz]
  have f2 : fAdd (.lst [.str ""]) (.lst ((sgn V.ls).map D.str)) = some ((base V.ls).map D.str) := by
    show (if [D.str ""].length + ((sgn V.ls).map D.str).length ≤ sizeLine then some ([D.str ""] ++ (sgn V.ls).map D.str) else none) = _
    rw [if_pos (sz_line (by simp [sgn_len]; omega))]; rfl
  generalize (sgn V.ls).map D.str = x1 at *
  generalize (base V.ls).map D.str = x2 at *
  generalize (pcs (base V.ls) V.ms).map D.str = x3 at *
  refine run_ret (o := kill [some (.val (dVoc V)), some (.own x3), a, b]) rfl ?_
  show (sSeq (sOwn _ _) (sSeq (sFor _ _ pcB) _)) [some (.val (dVoc V)), none, none, none] S = _
  rw [sSeq_nx (m1 := sOwn _ _) (ρ' := [some (.val (dVoc V)), some (.own x2), none, none]) (S' := S) (by simp [f1, f2])]
  rw [sSeq_nx (m1 := sFor _ _ _) (S' := S) (by
    rw [sFor_ev, show (iSeq (e2S dIx (eVar 0) (eC (.int 2)))) (vis _) S = some (V.ms.map dPair, S) by simp]
    exact e)]
  simp [fz_cons]
theorem m_size_eq {V : Voc} {S : Sto} (h : VocOk V) : m_size_raw [dVoc V] S = some (.int (1 + (V.ls.length : Nat) + (V.ms.length : Nat)), S) := by
  have hl := h.ls.len
  have hz : V.ls.length ≤ sizeLine := sz_line (by omega)
  have fl : fLen [.str V.ls] = some (.int (V.ls.length : Nat)) := by show (if V.ls.length ≤ sizeLine then some (D.int (V.ls.length : Nat)) else none) = _; rw [if_pos hz]
  simp [m_size_raw, runDef, b_size_raw, fl]
def vcB : SM := (sIf (tNot (tB (eF m_is_pair_below (aCons (eVar 4) (aCons (e2 dAdd (e2 dAdd (eC (.int 1)) (eN fLen (aCons (eVar 1) (aNil)))) (eVar 3)) (aNil)))))) (sRet (eC (.bl false))) (sNop))
theorem vc_loop {S : Sto} {z : Str} (hz : z.length ≤ 100) (v0 v2 : D) : ∀ (ms : List (Int × Int)) (n : Nat) (o3 o4 : Option LV), PO (1 + z.length + n) ms →
    ∃ o3' o4', sForGo (.tp [.nm 3, .nm 4]) vcB (enumL n (ms.map dPair)) [some (.val v0), some (.val (.str z)), some (.val v2), o3, o4] S = some ((.nx, [some (.val v0), some (.val (.str z)), some (.val v2), o3', o4']), S)
  | [], n, o3, o4, _ => ⟨o3, o4, rfl⟩
  | p :: ms, n, o3, o4, h => by
    obtain ⟨a, b, ih⟩ := vc_loop (S := S) hz v0 v2 ms (n + 1) (some (.val (.int (n : Nat)))) (some (.val (dPair p))) h.2
    refine ⟨a, b, ?_⟩
    have e := m_pair_below_eq (S := S) h.1
    have fl : fLen [.str z] = some (.int (z.length : Nat)) := by show (if z.length ≤ sizeLine then some (D.int (z.length : Nat)) else none) = _; rw [if_pos (sz_line (by omega))]
    have hc : ((1 + z.length + n : Nat) : Int) = 1 + (z.length : Int) + (n : Int) := by omega
    rw [hc] at e
    have bd : vcB [some (.val v0), some (.val (.str z)), some (.val v2), some (.val (.int (n : Nat))), some (.val (dPair p))] S = some ((.nx, [some (.val v0), some (.val (.str z)), some (.val v2), some (.val (.int (n : Nat))), some (.val (dPair p))]), S) := by
      simp [vcB, fl, e]
    rw [List.map_cons, enumL]
    unfold sForGo
    generalize dPair p = dp at *
    generalize vcB = vb at *
    simp [bd]
    exact ih
theorem m_is_voc_eq {V : Voc} {S : Sto} (h : VocOk V) : m_is_vocabulary_value [dVoc V] S = some (.bl true, S) := by
  have hl := h.ls.len
  have a := m_letters_eq (S := S) h.ls
  have b := m_pieces_eq (S := S) h
  have c := m_size_eq (S := S) h
  have pl := pcs_len V.ms (base V.ls)
  rw [base_len] at pl
  have d : dLenSet (.lst ((pcs (base V.ls) V.ms).map D.str)) = some (.int (1 + (V.ls.length : Nat) + (V.ms.length : Nat))) := by
    show ((strsD ((pcs (base V.ls) V.ms).map D.str)).bind fun ys => if ys.length < 4000 then some (D.int (cntS ys ys.length : Nat)) else none) = _
    rw [strsD_map, Option.bind_some, if_pos (by rw [pl]; have := h.few; omega), cnt_nd h.nd _ (Nat.le_refl _), pl]
    congr 2
  obtain ⟨o3, o4, e⟩ := vc_loop (S := S) (z := V.ls) (by omega) (dVoc V) (.tup (V.ms.map dPair)) V.ms 0 none none h.po
  have hf : ¬ ((10 : Int) < (V.ms.length : Nat)) := by have := h.few; omega
  generalize hv : dVoc V = dv at *
  refine run_ret (o := kill [some (.val dv), some (.val (.str V.ls)), some (.val (.tup (V.ms.map dPair))), o3, o4]) rfl ?_
  show (sSeq (sIf _ _ _) (sSeq (sPar _ _ _ _) (sSeq (sIf _ _ _) (sSeq (sFor _ _ vcB) _)))) [some (.val dv), none, none, none, none] S = _
  rw [sSeq_nx (m1 := sIf _ _ _) (ρ' := [some (.val dv), none, none, none, none]) (S' := S) (by subst hv; simp [isiB, isiT, dTy])]
  rw [sSeq_nx (m1 := sPar _ _ _ _) (ρ' := [some (.val dv), some (.val (.str V.ls)), some (.val (.tup (V.ms.map dPair))), none, none]) (S' := S) (by subst hv; simp)]
  rw [sSeq_nx (m1 := sIf _ _ _) (ρ' := [some (.val dv), some (.val (.str V.ls)), some (.val (.tup (V.ms.map dPair))), none, none]) (S' := S) (by simp [isiB, isiT, dTy, a, hf])]
  rw [sSeq_nx (m1 := sFor _ _ _) (S' := S) (by
    rw [sFor_ev, show (iEnum (eVar 2)) (vis _) S = some (enumL 0 (V.ms.map dPair), S) by simp]
    exact e)]
  generalize (pcs (base V.ls) V.ms).map D.str = pp at *
  simp [fz_cons, b, c, d]
end Wk
end
section
set_option Elab.async false
set_option linter.all false
set_option maxRecDepth 100000
set_option maxHeartbeats 800000
/-! P23: texts of vocabularies, there and back. Own work. -/
namespace Wk
open PySem J
abbrev prI (p : Int × Int) : List Int := [p.1, p.2]
def vocL (V : Voc) : List Str := (("letters " : Str) ++ V.ls) :: (V.ms.map prI).map (ln "merge")
theorem PO.bd : ∀ {n : Nat} {ms : List (Int × Int)}, PO n ms → ∀ p ∈ ms, (1 ≤ p.1 ∧ p.1 < (n + ms.length : Nat)) ∧ (1 ≤ p.2 ∧ p.2 < (n + ms.length : Nat))
  | _, [], _, p, hp => absurd hp List.not_mem_nil
  | n, q :: ms, h, p, hp => by
    rcases List.mem_cons.mp hp with rfl | hp
    · have := h.1; simp; omega
    · have := PO.bd h.2 p hp
      simp at this ⊢; omega
theorem VocOk.s3 {V : Voc} (h : VocOk V) : ∀ p ∈ V.ms, S3 (prI p) := fun p hp => ⟨by simp, fun i hi => by
  have := h.po.bd p hp
  have := h.few
  have := h.ls.len
  simp only [List.mem_cons, List.not_mem_nil, or_false] at hi
  omega⟩
theorem let_free {z : Str} (h : LetOk z) {s : Nat} (hs : s < 97) : s ∉ TL.tl z := fun hm => by have := h.small s hm; omega
theorem vocL_ok {V : Voc} (h : VocOk V) : LinesOk (vocL V) := by
  have lk := len_kind
  have nk := nl_kind
  have hl := h.ls.len
  refine ⟨by simp [vocL], by have := h.few; simp [vocL]; omega, fun x hx => ?_, fun x hx => ?_⟩
  · rcases List.mem_cons.mp hx with rfl | hx
    · rw [Str.length_append]; omega
    · obtain ⟨l, hl, rfl⟩ := List.mem_map.mp hx
      obtain ⟨p, hp, rfl⟩ := List.mem_map.mp hl
      have := ln_len3 (w := "merge") (h.s3 p hp); omega
  · rcases List.mem_cons.mp hx with rfl | hx
    · rw [TL.tl_append]
      intro hm
      rcases List.mem_append.mp hm with q | q
      · exact nk.2.2.2.2.2.2.2.2.2.2.2.2.1 q
      · exact let_free h.ls (by decide) q
    · obtain ⟨l, hl, rfl⟩ := List.mem_map.mp hx
      exact nl_ok nk.2.2.2.2.2.2.2.2.2.2.2.1
theorem pair_ints (ms : List (Int × Int)) : ms.map dPair = (ms.map prI).map dI := by
  rw [List.map_map]; rfl
theorem m_vlines_eq {V : Voc} {S : Sto} (h : VocOk V) : m_vocabulary_lines [dVoc V] S = some (.lst ((vocL V).map D.str), S) := by
  have lk := len_kind
  have hl := h.ls.len
  have e : lcGo (lcEl [1] (.nm 1) tT (eF m_words_of (aCons (eC (.str "merge")) (aCons (eVar 1) (aNil)))) [some (dVoc V), none]) (V.ms.map dPair) S = some (((V.ms.map prI).map (ln "merge")).map D.str, S) := by
    rw [pair_ints]
    exact lc_lines (by simp) (fun x => rfl) (fun r hr => by obtain ⟨p, hp, rfl⟩ := List.mem_map.mp hr; exact (h.s3 p hp).sz) (by omega)
  have a : dAdd (.str "letters ") (.str V.ls) = some (.str (("letters " : Str) ++ V.ls)) := dAdd_str (by omega)
  have b : ∀ x, dAdd (.lst [x]) (.lst (((V.ms.map prI).map (ln "merge")).map D.str)) = some (.lst (x :: ((V.ms.map prI).map (ln "merge")).map D.str)) := fun x => by
    rw [dAdd_lst, if_pos (sz_line (by have := h.few; simp; omega))]; rfl
  have ev : (vocL V).map D.str = D.str (("letters " : Str) ++ V.ls) :: ((V.ms.map prI).map (ln "merge")).map D.str := rfl
  rw [ev]
  generalize ((V.ms.map prI).map (ln "merge")).map D.str = zs at *
  generalize (("letters " : Str) ++ V.ls) = z at *
  simp [m_vocabulary_lines, runDef, b_vocabulary_lines, a, e, b, -dAdd_lst]
theorem m_vtext_eq {V : Voc} {S : Sto} (h : VocOk V) : m_vocabulary_text [dVoc V] S = some (.str (Txt.join "\n" (vocL V)), S) := by
  have e1 := m_is_voc_eq (S := S) h
  have e2 := m_vlines_eq (S := S) h
  have e3 := (vocL_ok h).join
  generalize Txt.join "\n" (vocL V) = z at *
  generalize (vocL V).map D.str = zs at *
  simp [m_vocabulary_text, runDef, b_vocabulary_text, m_need_vocabulary, b_need_vocabulary, e1, e2, e3]
theorem m_lvtext_eq {V : Voc} {S : Sto} (h : VocOk V) : m__law_vocabulary_text [dVoc V] S = some (.str (Txt.join "\n" (vocL V)), S) := by
  have lk := len_kind
  have hl := h.ls.len
  have e : lcGo (lcEl [1] (.nm 1) tT (e2 dAdd (eC (.str "merge")) (eF m__law_words (aCons (eVar 1) (aNil)))) [some (dVoc V), none]) (V.ms.map dPair) S = some (((V.ms.map prI).map (ln "merge")).map D.str, S) := by
    rw [pair_ints]
    exact lc_llines (by simp) (fun x => rfl) (fun r hr => by obtain ⟨p, hp, rfl⟩ := List.mem_map.mp hr; exact (h.s3 p hp).sz) (by omega)
  have a : dAdd (.str "letters ") (.str V.ls) = some (.str (("letters " : Str) ++ V.ls)) := dAdd_str (by omega)
  have b : ∀ x, dAdd (.lst [x]) (.lst (((V.ms.map prI).map (ln "merge")).map D.str)) = some (.lst (x :: ((V.ms.map prI).map (ln "merge")).map D.str)) := fun x => by
    rw [dAdd_lst, if_pos (sz_line (by have := h.few; simp; omega))]; rfl
  have e3 := (vocL_ok h).join
  have ev : (vocL V).map D.str = D.str (("letters " : Str) ++ V.ls) :: ((V.ms.map prI).map (ln "merge")).map D.str := rfl
  rw [ev] at e3
  generalize Txt.join "\n" (vocL V) = y at *
  generalize ((V.ms.map prI).map (ln "merge")).map D.str = zs at *
  generalize (("letters " : Str) ++ V.ls) = z at *
  simp [m__law_vocabulary_text, runDef, b__law_vocabulary_text, a, e, b, e3, fz_cons, -dAdd_lst]
/-! ### back -/
theorem tl_letters : TL.tl ("letters " : Str) = TL.tl ("letters" : Str) ++ [32] := by decide +kernel
theorem split_let {V : Voc} (h : VocOk V) : dSplit (.str (("letters " : Str) ++ V.ls)) (.str " ") = some (.lst [.str "letters", .str V.ls]) := by
  have lk := len_kind
  have hl := h.ls.len
  have e : (("letters " : Str) ++ V.ls) = Txt.join " " ["letters", V.ls] := TL.ext_tl (by
    rw [TL.join_eq, TL.tl_join, TL.tl_append, tl_letters, tl_sp]
    simp only [List.map_cons, List.map_nil, TL.joinL, List.append_assoc])
  refine dSplit_eq (ps := ["letters", V.ls]) ?_ (by rw [len_sp]; rfl) (by rw [Str.length_append]; omega) (by simp)
  rw [e]
  refine TL.split_join tl_sp k_sp (by simp) fun p hp => ?_
  simp only [List.mem_cons, List.not_mem_nil, or_false] at hp
  rcases hp with rfl | rfl
  · exact sp_kind.2.2.2.2.2.2.2.2.2.2.2.2
  · exact let_free h.ls (by decide)
def rvB : SM := (sSeq (sSet 5 (eF m_numbers_behind (aCons (eVar 4) (aCons (eC (.str "merge")) (aNil)))))
    (sSeq (sSet 6 (eIf (tB (e2 dIs (eVar 5) (eC .non))) (eC .non) (eTup (aCons (eC (.str "vocabulary")) (aCons (e2S dIx (eVar 1) (eC (.int 1))) (aCons (e2 dAdd (e2S dIx (eVar 2) (eC (.int 2))) (eTup (aCons (eVar 5) (aNil)))) (aNil)))))))
    (sSeq (sIf (tOr (tB (e2 dIs (eVar 6) (eC .non))) (tNot (tB (eF m_is_vocabulary_value (aCons (eVar 6) (aNil)))))) (sRet (eTup (aCons (eC .non) (aCons (e2 dAdd (eVar 3) (eC (.int 1))) (aNil))))) (sNop))
    (sSet 2 (eVar 6)))))
theorem rv_step {V : Voc} {S : Sto} {a b : List (Int × Int)} {p : Int × Int} (h : VocOk V) (he : V.ms = a ++ p :: b) (v0 v3 : D) (o5 o6 : Option LV) :
    rvB [some (.val v0), some (.val (.lst [.str "letters", .str V.ls])), some (.val (dVoc ⟨V.ls, a⟩)), some (.val v3), some (.val (.str (ln "merge" (prI p)))), o5, o6] S =
      some ((.nx, [some (.val v0), some (.val (.lst [.str "letters", .str V.ls])), some (.val (dVoc ⟨V.ls, a ++ [p]⟩)), some (.val v3), some (.val (.str (ln "merge" (prI p)))), some (.val (dPair p)), some (.val (dVoc ⟨V.ls, a ++ [p]⟩))]), S) := by
  have lk := len_kind
  have hmem : p ∈ V.ms := by rw [he]; exact List.mem_append_right _ List.mem_cons_self
  have e1 : m_numbers_behind [.str (ln "merge" (prI p)), .str "merge"] S = some (dPair p, S) := by
    rw [m_behind_eq (h.s3 p hmem).sz (by omega) sp_kind.2.2.2.2.2.2.2.2.2.2.2.1, if_pos rfl]; rfl
  have ok := h.pre (a := a ++ [p]) (b := b) (by rw [he]; simp)
  have e2 := m_is_voc_eq (S := S) ok
  have ha : a.length ≤ 10 := by have := h.few; rw [he, List.length_append] at this; omega
  have z1 : (a.map dPair).length + 1 ≤ sizeLine := sz_line (by simp; omega)
  have em : (a ++ [p]).map dPair = a.map dPair ++ [dPair p] := by simp
  have hp : dIs (dPair p) .non = some (.bl false) := rfl
  unfold dVoc at e2 ⊢
  simp only [em] at e2 ⊢
  generalize ln "merge" (prI p) = r at *
  generalize a.map dPair = as at *
  generalize dPair p = pp at *
  unfold rvB
  rw [sSeq_nx (m1 := sSet 5 _) (ρ' := [some (.val v0), some (.val (.lst [.str "letters", .str V.ls])), some (.val (.tup [.str "vocabulary", .str V.ls, .tup as])), some (.val v3), some (.val (.str r)), some (.val pp), o6]) (S' := S) (by simp [vis_cons, e1])]
  rw [sSeq_nx (m1 := sSet 6 _) (ρ' := [some (.val v0), some (.val (.lst [.str "letters", .str V.ls])), some (.val (.tup [.str "vocabulary", .str V.ls, .tup as])), some (.val v3), some (.val (.str r)), some (.val pp), some (.val (.tup [.str "vocabulary", .str V.ls, .tup (as ++ [pp])]))]) (S' := S) (by simp [vis_cons, hp, z1])]
  rw [sSeq_nx (m1 := sIf _ _ _) (ρ' := [some (.val v0), some (.val (.lst [.str "letters", .str V.ls])), some (.val (.tup [.str "vocabulary", .str V.ls, .tup as])), some (.val v3), some (.val (.str r)), some (.val pp), some (.val (.tup [.str "vocabulary", .str V.ls, .tup (as ++ [pp])]))]) (S' := S) (by simp [vis_cons, dIs, isNonD, e2])]
  simp [vis_cons]
theorem rv_loop {V : Voc} {S : Sto} (h : VocOk V) (v0 : D) : ∀ (b a : List (Int × Int)) (n : Nat) (o3 o4 o5 o6 : Option LV), V.ms = a ++ b →
    ∃ o3' o4' o5' o6', sForGo (.tp [.nm 3, .nm 4]) rvB (enumL n (((b.map prI).map (ln "merge")).map D.str)) [some (.val v0), some (.val (.lst [.str "letters", .str V.ls])), some (.val (dVoc ⟨V.ls, a⟩)), o3, o4, o5, o6] S =
      some ((.nx, [some (.val v0), some (.val (.lst [.str "letters", .str V.ls])), some (.val (dVoc V)), o3', o4', o5', o6']), S)
  | [], a, n, o3, o4, o5, o6, he => ⟨o3, o4, o5, o6, by
      have : V = ⟨V.ls, a⟩ := by
        cases V; simp only at he; rw [List.append_nil] at he; rw [he]
      rw [← this]
      simp [enumL, sForGo]⟩
  | p :: b, a, n, o3, o4, o5, o6, he => by
    have s := rv_step (S := S) h he v0 (.int (n : Nat)) o5 o6
    obtain ⟨x4, x5, x6, x7, ih⟩ := rv_loop (S := S) h v0 b (a ++ [p]) (n + 1) (some (.val (.int (n : Nat)))) (some (.val (.str (ln "merge" (prI p))))) (some (.val (dPair p))) (some (.val (dVoc ⟨V.ls, a ++ [p]⟩))) (by rw [he]; simp)
    refine ⟨x4, x5, x6, x7, ?_⟩
    rw [List.map_cons, List.map_cons, List.map_cons, enumL]
    unfold sForGo
    generalize dVoc ⟨V.ls, a ++ [p]⟩ = d2 at *
    generalize dVoc ⟨V.ls, a⟩ = d1 at *
    generalize dVoc V = d3 at *
    generalize ((b.map prI).map (ln "merge")).map D.str = bs at *
    generalize ln "merge" (prI p) = r at *
    generalize rvB = bd at *
    generalize dPair p = pp at *
    simp [s]
    simpa using ih
theorem m_read_voc {V : Voc} {S : Sto} (h : VocOk V) : m_read_vocabulary [.str (Txt.join "\n" (vocL V))] S = some (dVoc V, S) := by
  have r := m_rows_eq (S := S) (vocL_ok h)
  have sp := split_let h
  have hle := m_letters_eq (S := S) h.ls
  have ev : (vocL V).map D.str = D.str (("letters " : Str) ++ V.ls) :: ((V.ms.map prI).map (ln "merge")).map D.str := rfl
  rw [ev] at r
  obtain hl := fun v0 => rv_loop (S := S) h v0 V.ms [] 0 none none none none rfl
  have e0 : dVoc ⟨V.ls, []⟩ = .tup [.str "vocabulary", .str V.ls, .tup []] := rfl
  rw [e0] at hl
  have hn : dIs (dVoc V) .non = some (.bl false) := rfl
  generalize dVoc V = dv at *
  generalize Txt.join "\n" (vocL V) = y at *
  generalize ((V.ms.map prI).map (ln "merge")).map D.str = zs at *
  generalize (("letters " : Str) ++ V.ls) = z at *
  obtain ⟨o3, o4, o5, o6, hl⟩ := hl (.lst (D.str z :: zs))
  have c1 : cutL (D.str z :: zs) (some 1) none = zs := by
    rw [show (1 : Int) = ((1 : Nat) : Int) from rfl, cut_drop]; rfl
  have e : m_read_vocabulary_lines [.lst (D.str z :: zs)] S = some (.tup [dv, .non], S) := by
    refine run_ret (o := kill [some (.val (.lst (D.str z :: zs))), some (.val (.lst [.str "letters", .str V.ls])), some (.val dv), o3, o4, o5, o6]) rfl ?_
    show (sSeq _ (sSeq (sIf _ _ _) (sSeq _ (sSeq (sFor _ _ rvB) _)))) [some (.val (.lst (D.str z :: zs))), none, none, none, none, none, none] S = _
    rw [sSeq_nx (m1 := sSet 1 _) (ρ' := [some (.val (.lst (D.str z :: zs))), some (.val (.lst [.str "letters", .str V.ls])), none, none, none, none, none]) (S' := S) (by simp [sp])]
    rw [sSeq_nx (m1 := sIf _ _ _) (ρ' := [some (.val (.lst (D.str z :: zs))), some (.val (.lst [.str "letters", .str V.ls])), none, none, none, none, none]) (S' := S) (by simp [hle])]
    rw [sSeq_nx (m1 := sSet 2 _) (ρ' := [some (.val (.lst (D.str z :: zs))), some (.val (.lst [.str "letters", .str V.ls])), some (.val (.tup [.str "vocabulary", .str V.ls, .tup []])), none, none, none, none]) (S' := S) (by simp)]
    rw [sSeq_nx (m1 := sFor _ _ _) (S' := S) (by
      rw [sFor_ev, show (iEnum (e3 dSlice (eVar 0) (oSome (eC (.int 1))) (oNone))) (vis _) S = some (enumL 0 zs, S) by simp [c1]]
      exact hl)]
    simp [fz_cons]
  simp [m_read_vocabulary, runDef, b_read_vocabulary, r, e, hn]
end Wk
end
section
set_option Elab.async false
set_option linter.all false
set_option maxRecDepth 100000
set_option maxHeartbeats 800000
/-! P24: steps that draw. Own work. -/
namespace Wk
open PySem J
def Wp {α : Type} (o : Option (α × Sto)) (Q : α → Sto → Prop) : Prop := ∃ a S, o = some (a, S) ∧ Q a S
theorem Wp.bind {α β : Type} {o : Option (α × Sto)} {f : α × Sto → Option (β × Sto)} {Q : β → Sto → Prop} (h : Wp o fun a S => Wp (f (a, S)) Q) : Wp (o.bind f) Q := by
  obtain ⟨a, S, rfl, h⟩ := h
  exact h
theorem Wp.some {α : Type} {a : α} {S : Sto} {Q : α → Sto → Prop} (h : Q a S) : Wp (some (a, S)) Q := ⟨a, S, rfl, h⟩
theorem Wp.of {α : Type} {o : Option (α × Sto)} {a : α} {S : Sto} {Q : α → Sto → Prop} (e : o = Option.some (a, S)) (h : Q a S) : Wp o Q := ⟨a, S, e, h⟩
theorem Wp.mono {α : Type} {o : Option (α × Sto)} {P Q : α → Sto → Prop} (h : Wp o P) (i : ∀ a S, P a S → Q a S) : Wp o Q := by
  obtain ⟨a, S, e, h⟩ := h
  exact ⟨a, S, e, i a S h⟩
/-- the deck, and behind it other shared things -/
def Dk (r : Sto) (S : Sto) : Prop := ∃ l m k, S = deckS l m k r ∧ l.length ≤ 900
theorem wp_draw {r S : Sto} {many : Int} (h : Dk r S) (h0 : 0 < many) (h1 : many < 1073741824) : Wp (m__law_draw [.ob 1, .int many] S) fun v S' => ∃ x, v = .int x ∧ 0 ≤ x ∧ x < many ∧ Dk r S' := by
  obtain ⟨l, m, k, rfl, hl⟩ := h
  obtain ⟨x, l', e, a, b, c⟩ := m_draw_eq (l := l) (m := m) (k := k) (r := r) hl h0 h1
  exact ⟨_, _, e, x, rfl, a, b, l', m, k + 1, rfl, by omega⟩
theorem wp_pick {r S : Sto} {xs : List D} (h : Dk r S) (h0 : xs ≠ []) (h1 : xs.length < 1000000) : Wp (m__law_pick [.ob 1, .lst xs] S) fun v S' => v ∈ xs ∧ Dk r S' := by
  obtain ⟨l, m, k, rfl, hl⟩ := h
  obtain ⟨i, l', hi, e, c⟩ := m_pick_eq (l := l) (m := m) (k := k) (r := r) hl h0 h1
  exact ⟨_, _, e, List.getElem_mem hi, l', m, k + 1, rfl, by omega⟩
theorem wp_lc {r : Sto} {f : D → M (Option D)} (P : D → Prop) : ∀ (xs : List D) (S : Sto), Dk r S → (∀ d ∈ xs, ∀ S, Dk r S → Wp (f d S) fun o S' => ∃ z, o = some z ∧ P z ∧ Dk r S') →
    Wp (lcGo f xs S) fun zs S' => zs.length = xs.length ∧ (∀ z ∈ zs, P z) ∧ Dk r S'
  | [], S, hS, _ => ⟨[], S, rfl, rfl, fun z hz => absurd hz List.not_mem_nil, hS⟩
  | d :: xs, S, hS, h => by
    obtain ⟨o, S1, e1, z, rfl, pz, h1⟩ := h d List.mem_cons_self S hS
    obtain ⟨zs, S2, e2, n, q, h2⟩ := wp_lc P xs S1 h1 fun x hx => h x (List.mem_cons_of_mem _ hx)
    refine ⟨z :: zs, S2, ?_, by simp [n], fun y hy => ?_, h2⟩
    · rw [lcGo, e1]
      show ((lcGo f xs S1).bind _) = _
      rw [e2]; rfl
    · rcases List.mem_cons.mp hy with e | hy
      · rw [e]; exact pz
      · exact q y hy
theorem wp_seq {m1 m2 : SM} {ρ : LEnv} {S : Sto} {Q : Fl × LEnv → Sto → Prop} (mid : LEnv → Sto → Prop) (h1 : Wp (m1 ρ S) fun p S' => p.1 = .nx ∧ mid p.2 S') (h2 : ∀ ρ' S', mid ρ' S' → Wp (m2 ρ' S') Q) : Wp (sSeq m1 m2 ρ S) Q := by
  obtain ⟨⟨fl, ρ'⟩, S', e, rfl, hm⟩ := h1
  rw [sSeq_nx e]
  exact h2 ρ' S' hm
theorem wp_def {n k : Nat} {b : SM} {ds : List D} {S : Sto} {Q : D → Sto → Prop} (hl : ds.length = k) (h : Wp (b (ds.map (fun d => some (.val d)) ++ List.replicate (n - k) none) S) fun p S' => ∃ d, p.1 = .ret d ∧ Q d S') : Wp (runDef n k b ds S) Q := by
  obtain ⟨⟨fl, ρ'⟩, S', e, d, rfl, q⟩ := h
  exact ⟨d, S', run_ret hl e, q⟩
/-! ### weights -/
theorem sum_nn : ∀ {l : List Int}, (∀ x ∈ l, 0 ≤ x ∧ x ≤ 100) → 0 ≤ l.sum
  | [], _ => by simp
  | x :: l, h => by
    have := sum_nn (l := l) fun y hy => h y (List.mem_cons_of_mem _ hy)
    have := h x List.mem_cons_self
    rw [List.sum_cons]; omega
theorem wp_weights {r S : Sto} {n : Nat} (h : Dk r S) (hn : 2 ≤ n ∧ n ≤ 6) : Wp (m__law_some_weights [.ob 1, .int (n : Nat)] S) fun v S' => ∃ l, v = dI l ∧ WtOk n l ∧ Dk r S' := by
  have rg := rgD_nat (n := n) (by omega)
  obtain ⟨zs, S1, e, hn2, q, h1⟩ := wp_lc (r := r) (f := lcEl [3] (.nm 3) tT (eF m__law_pick (aCons (eVar 0) (aCons (eL (aCons (eC (.int 0)) (aCons (eC (.int 1)) (aCons (eC (.int 1)) (aCons (eC (.int 2)) (aCons (eC (.int 3)) (aCons (eC (.int 5)) (aCons (J.e2 dAdd (eC (.int 1)) (eF m__law_draw (aCons (eVar 0) (aCons (eC (.int 20)) (aNil))))) (aNil))))))))) (aNil)))) [some (.ob 1), some (.int (n : Nat)), none, none]) (fun z => ∃ i, z = .int i ∧ (0 ≤ i ∧ i ≤ 100)) ((List.range n).map fun i => .int (i : Nat)) S h (fun d _ S hS => by
    obtain ⟨v, S1, e1, x, rfl, a, b, h1⟩ := wp_draw (many := 20) hS (by decide) (by decide)
    obtain ⟨w, S2, e2, hm, h2⟩ := wp_pick (xs := [.int 0, .int 1, .int 1, .int 2, .int 3, .int 5, .int (1 + x)]) h1 (by simp) (by simp)
    refine ⟨some w, S2, ?_, w, rfl, ?_, h2⟩
    · rw [lcEl_tT]
      simp only [wipeE_cons, wipeE_nil, List.set_cons_succ, List.set_cons_zero, asgT_nm, List.length_cons, List.length_nil, Nat.reduceAdd, Nat.reduceLT, if_true, Option.bind_some, eF_ev, eL_ev, J.e2_ev, aCons_ev, aNil_ev, eVar_ev, eC_ev, List.getElem?_cons_zero, List.getElem?_cons_succ, id_eq, e1, dAdd_int, e2]
    · simp only [List.mem_cons, List.not_mem_nil, or_false] at hm
      rcases hm with rfl | rfl | rfl | rfl | rfl | rfl | rfl
      · exact ⟨_, rfl, by omega⟩
      · exact ⟨_, rfl, by omega⟩
      · exact ⟨_, rfl, by omega⟩
      · exact ⟨_, rfl, by omega⟩
      · exact ⟨_, rfl, by omega⟩
      · exact ⟨_, rfl, by omega⟩
      · exact ⟨_, rfl, by omega⟩)
  obtain ⟨l, rfl, hl⟩ := ints_of (P := fun i => 0 ≤ i ∧ i ≤ 100) q
  have hll : l.length = n := by simpa using hn2
  have s1 : sSet 2 (eL (fLc (iRange (aCons (eVar 1) (aNil))) [3] (.nm 3) (tT) (eF m__law_pick (aCons (eVar 0) (aCons (eL (aCons (eC (.int 0)) (aCons (eC (.int 1)) (aCons (eC (.int 1)) (aCons (eC (.int 2)) (aCons (eC (.int 3)) (aCons (eC (.int 5)) (aCons (J.e2 dAdd (eC (.int 1)) (eF m__law_draw (aCons (eVar 0) (aCons (eC (.int 20)) (aNil))))) (aNil))))))))) (aNil)))))) [some (.val (.ob 1)), some (.val (.int (n : Nat))), none, none] S = some ((.nx, [some (.val (.ob 1)), some (.val (.int (n : Nat))), some (.val (.lst (l.map D.int))), none]), S1) := by
    rw [sSet_ev, eL_ev, fLc_ev]
    simp only [iRange_ev, aCons_ev, aNil_ev, vis_val, vis_none, vis_nil, eVar_ev, List.getElem?_cons_zero, List.getElem?_cons_succ, Option.bind_some, rg]
    rw [e]
    rfl
  refine wp_def rfl ?_
  show Wp ((sSeq _ _) [some (.val (.ob 1)), some (.val (.int (n : Nat))), none, none] S) _
  rw [sSeq_nx s1]
  have sn := sum_nn hl
  by_cases hp : 0 < l.sum
  · refine Wp.of (a := (.ret (dI l), kill [some (.val (.ob 1)), some (.val (.int (n : Nat))), some (.val (.lst (l.map D.int))), none])) (S := S1) ?_ ⟨_, rfl, l, rfl, ⟨hll, hl, by omega⟩, h1⟩
    simp [hp]
  · have hc : cutL (l.map D.int) (some 1) none = (l.drop 1).map D.int := by
      rw [show (1 : Int) = ((1 : Nat) : Int) from rfl, cut_drop, List.map_drop]
    have hz : 1 + ((l.drop 1).map D.int).length ≤ sizeLine := sz_line (by simp; omega)
    have hw : WtOk n (1 :: l.drop 1) := by
      have hd : ∀ x ∈ l.drop 1, 0 ≤ x ∧ x ≤ 100 := fun x hx => hl x (List.mem_of_mem_drop hx)
      refine ⟨by simp; omega, fun x hx => ?_, ?_⟩
      · rcases List.mem_cons.mp hx with rfl | hx
        · omega
        · exact hd x hx
      · have := sum_nn hd
        rw [List.sum_cons]; omega
    have hz' : 1 + (l.length - 1) ≤ sizeLine := by simpa using hz
    refine Wp.of (a := (.ret (dI (1 :: l.drop 1)), kill [some (.val (.ob 1)), some (.val (.int (n : Nat))), some (.val (.lst (l.map D.int))), none])) (S := S1) ?_ ⟨_, rfl, _, rfl, hw, h1⟩
    simp [hp, hc, hz', -List.map_drop, -List.drop_one]
end Wk
end
section
set_option Elab.async false
set_option linter.all false
set_option maxRecDepth 100000
set_option maxHeartbeats 800000
/-! P25: a drawn window. Own work. -/
namespace Wk
open PySem J
def kI (l : List Int) : List L2.Key := l.map Sum.inl
abbrev kv (e : Pr) : List L2.Key × D := (kI e.1, dI e.2)
theorem kI_inj : ∀ {a b : List Int}, kI a = kI b → a = b
  | [], [], _ => rfl
  | [], _ :: _, h => by simp [kI] at h
  | _ :: _, [], h => by simp [kI] at h
  | x :: a, y :: b, h => by
    simp only [kI, List.map_cons, List.cons.injEq, Sum.inl.injEq] at h
    rw [h.1, kI_inj h.2]
theorem keysD_ints : ∀ l : List Int, keysD (l.map D.int) = some (kI l)
  | [] => rfl
  | x :: l => by
    show ((keyD (.int x)).bind fun k => (keysD (l.map D.int)).map (k :: ·)) = _
    rw [keysD_ints l]; rfl
structure EsOk (n k : Nat) (es : List Pr) : Prop where
  nd : (es.map (·.1)).Nodup
  ok : ∀ e ∈ es, TokOk n e.1 ∧ e.1.length ≤ k ∧ WtOk n e.2
theorem put_es {n k : Nat} {es : List Pr} {key w : List Int} (h : EsOk n k es) (h1 : TokOk n key) (h2 : key.length ≤ k) (h3 : WtOk n w) :
    ∃ es', putD (es.map kv) (kI key) (dI w) = es'.map kv ∧ EsOk n k es' ∧ es'.length ≤ es.length + 1 := by
  unfold putD
  by_cases hx : ∃ e ∈ es, e.1 = key
  · have ha : ((es.map kv).any fun p => decide (p.1 = kI key)) = true := by
      obtain ⟨e, he, rfl⟩ := hx
      rw [List.any_eq_true]
      exact ⟨kv e, List.mem_map_of_mem he, decide_eq_true rfl⟩
    rw [if_pos ha]
    refine ⟨es.map (fun e => if e.1 = key then (e.1, w) else e), ?_, ⟨?_, fun e he => ?_⟩, by simp⟩
    · rw [List.map_map, List.map_map]
      refine List.map_congr_left fun e _ => ?_
      show (if kI e.1 = kI key then (kI e.1, dI w) else kv e) = kv (if e.1 = key then (e.1, w) else e)
      by_cases q : e.1 = key
      · rw [if_pos q, if_pos (by rw [q])]
      · rw [if_neg q, if_neg fun z => q (kI_inj z)]
    · rw [List.map_map]
      have : (es.map ((fun x => x.1) ∘ fun e => if e.1 = key then (e.1, w) else e)) = es.map (·.1) := List.map_congr_left fun e _ => by
        show (if e.1 = key then (e.1, w) else e).1 = e.1
        split <;> rfl
      rw [this]; exact h.nd
    · obtain ⟨x, hx', rfl⟩ := List.mem_map.mp he
      have := h.ok x hx'
      split
      · exact ⟨this.1, this.2.1, h3⟩
      · exact this
  · have ha : ¬ ((es.map kv).any fun p => decide (p.1 = kI key)) = true := by
      intro z
      obtain ⟨p, hp, q⟩ := List.any_eq_true.mp z
      obtain ⟨e, he, rfl⟩ := List.mem_map.mp hp
      exact hx ⟨e, he, kI_inj (of_decide_eq_true q)⟩
    rw [if_neg ha]
    refine ⟨es ++ [(key, w)], by simp, ⟨?_, fun e he => ?_⟩, by simp⟩
    · rw [List.map_append, List.nodup_append]
      refine ⟨h.nd, by simp, fun a ha b hb => ?_⟩
      obtain ⟨e, he, rfl⟩ := List.mem_map.mp ha
      rw [List.map_cons, List.map_nil, List.mem_singleton] at hb
      rw [hb]
      exact fun z => hx ⟨e, he, z⟩
    · rcases List.mem_append.mp he with he | he
      · exact h.ok e he
      · rw [List.mem_singleton.mp he]; exact ⟨h1, h2, h3⟩
/-- the dict lies behind the deck -/
def Dw (r : Sto) (es : List Pr) (S : Sto) : Prop := Dk (r ++ [.dT (es.map kv)]) S
theorem Dw.at {r : Sto} {es : List Pr} {S : Sto} (h : Dw r es S) : S[2 + r.length]? = some (.dT (es.map kv)) := by
  obtain ⟨l, m, k, rfl, _⟩ := h
  show (Cell.lst (l.map D.int) :: Cell.dK (deckD m k) :: (r ++ [Cell.dT (es.map kv)]))[2 + r.length]? = _
  rw [show 2 + r.length = r.length + 1 + 1 by omega, List.getElem?_cons_succ, List.getElem?_cons_succ, List.getElem?_append_right (Nat.le_refl _), Nat.sub_self]
  rfl
theorem Dw.put {r : Sto} {es es' : List Pr} {S : Sto} (h : Dw r es S) : Dw r es' (S.set (2 + r.length) (.dT (es'.map kv))) := by
  obtain ⟨l, m, k, rfl, hl⟩ := h
  refine ⟨l, m, k, ?_, hl⟩
  show (Cell.lst (l.map D.int) :: Cell.dK (deckD m k) :: (r ++ [Cell.dT (es.map kv)])).set (2 + r.length) _ = _
  rw [show 2 + r.length = r.length + 1 + 1 by omega, List.set_cons_succ, List.set_cons_succ, List.set_append_right _ _ (Nat.le_refl _), Nat.sub_self]
  rfl
theorem put_eq {r : Sto} {es : List Pr} {S : Sto} {n k : Nat} {key w : List Int} (h : Dw r es S) (hz : es.length ≤ 100) (ho : EsOk n k es) (h1 : TokOk n key) (h2 : key.length ≤ k) (h3 : WtOk n w) :
    ∃ es' S', fPut S (.ob (2 + r.length)) (dI key) (dI w) = some S' ∧ EsOk n k es' ∧ es'.length ≤ es.length + 1 ∧ Dw r es' S' := by
  obtain ⟨es', e, ho', hl⟩ := put_es ho h1 h2 h3
  refine ⟨es', _, ?_, ho', hl, h.put⟩
  show (match S[2 + r.length]? with
    | some (.dK kvs) => (keyD (dI key)).bind fun k => if pureD (dI w) = true ∧ kvs.length < sizeLine then some (S.set (2 + r.length) (.dK (putD kvs k (dI w)))) else none
    | some (.dT kvs) => match dI key with
      | .tup ks => (keysD ks).bind fun k => if pureD (dI w) = true ∧ kvs.length < sizeLine then some (S.set (2 + r.length) (.dT (putD kvs k (dI w)))) else none
      | _ => none
    | _ => none) = _
  rw [h.at]
  show ((keysD (key.map D.int)).bind fun k => if pureD (dI w) = true ∧ (es.map kv).length < sizeLine then some (S.set (2 + r.length) (.dT (putD (es.map kv) k (dI w)))) else none) = _
  rw [keysD_ints, Option.bind_some, if_pos ⟨pure_ints w, Nat.lt_of_lt_of_le (show (es.map kv).length < 101 by rw [List.length_map]; omega) (line_small (by decide))⟩, e]
theorem intsK_kI : ∀ l : List Int, intsK (kI l) = some l
  | [] => rfl
  | x :: l => by
    show ((intK (.inl x)).bind fun i => (intsK (kI l)).map (i :: ·)) = _
    rw [intsK_kI l]; rfl
theorem intsKK_es : ∀ es : List Pr, intsKK ((es.map kv).map (·.1)) = some (es.map (·.1))
  | [] => rfl
  | e :: es => by
    show ((intsK (kI e.1)).bind fun i => (intsKK ((es.map kv).map (·.1))).map (i :: ·)) = _
    rw [intsK_kI, intsKK_es es]; rfl
theorem sorted_eq {r : Sto} {es : List Pr} {S : Sto} {n k : Nat} (h : Dw r es S) (hz : es.length ≤ 100) (ho : EsOk n k es) (hk : k ≤ 100) : fSortedS S [.ob (2 + r.length)] = some (.lst ((srtL (es.map (·.1))).map dI)) := by
  have e0 : ∀ (o : Option Cell), S[2 + r.length]? = o → fSortedS S [.ob (2 + r.length)] = (match o with
    | some (.dT kvs) => if kvs.length ≤ sizeLine then (intsKK (kvs.map Prod.fst)).bind fun ks => if ks.all (fun k => decide (k.length ≤ 1000)) = true then some (D.lst ((srtL ks).map dTup)) else none else none
    | _ => none) := fun o ho => by rw [← ho]; rfl
  rw [e0 _ h.at]
  have ha : (es.map (·.1)).all (fun k => decide (k.length ≤ 1000)) = true := by
    rw [List.all_eq_true]
    intro x hx
    obtain ⟨e, he, rfl⟩ := List.mem_map.mp hx
    have := (ho.ok e he).2.1
    exact decide_eq_true (by omega)
  show (if (es.map kv).length ≤ sizeLine then (intsKK ((es.map kv).map (·.1))).bind fun ks => if ks.all (fun k => decide (k.length ≤ 1000)) = true then some (D.lst ((srtL ks).map dTup)) else none else none) = _
  rw [if_pos (sz_line (by rw [List.length_map]; omega)), intsKK_es, Option.bind_some, if_pos ha]; rfl
/-- the entry of a key -/
def wOf (es : List Pr) (key : List Int) : List Int := ((es.find? fun e => decide (e.1 = key)).map (·.2)).getD []
theorem ix_es {r : Sto} {es : List Pr} {S : Sto} {key : List Int} (h : Dw r es S) (hk : key ∈ es.map (·.1)) : dIx S (.ob (2 + r.length)) (dI key) = some (dI (wOf es key)) ∧ (key, wOf es key) ∈ es := by
  have hf : ∃ e, es.find? (fun e => decide (e.1 = key)) = some e := by
    obtain ⟨e, he, rfl⟩ := List.mem_map.mp hk
    cases hq : es.find? (fun x => decide (x.1 = e.1)) with
    | some z => exact ⟨z, rfl⟩
    | none =>
      have := List.find?_eq_none.mp hq e he
      simp at this
  obtain ⟨e, he⟩ := hf
  have e1 := List.find?_some he
  have e2 : e.1 = key := of_decide_eq_true e1
  have e3 : wOf es key = e.2 := by unfold wOf; rw [he]; rfl
  refine ⟨?_, by rw [e3, ← e2]; exact List.mem_of_find?_eq_some he⟩
  show (match S[2 + r.length]? with
    | some (.lst xs) => none
    | some (.dK kvs) => (keyD (dI key)).bind fun k => findK kvs k
    | some (.dT kvs) => (keysD (key.map D.int)).bind fun k => findK kvs k
    | none => none) = _
  rw [h.at]
  show ((keysD (key.map D.int)).bind fun k => findK (es.map kv) k) = _
  rw [keysD_ints, Option.bind_some, e3]
  unfold findK
  rw [List.find?_map]
  have : ((fun p : List L2.Key × D => decide (p.1 = kI key)) ∘ kv) = fun e : Pr => decide (e.1 = key) := funext fun e => by
    show decide (kI e.1 = kI key) = decide (e.1 = key)
    by_cases q : e.1 = key
    · rw [decide_eq_true q, decide_eq_true (by rw [q])]
    · rw [decide_eq_false q, decide_eq_false fun z => q (kI_inj z)]
  rw [this, he]; rfl
theorem grow_srt {f : List Int → List Int} : ∀ {l : List (List Int)}, l.Pairwise (fun x y => HT.lexLt y x = false) → l.Nodup → Grow (l.map fun k => (k, f k))
  | [], _, _ => trivial
  | [_], _, _ => trivial
  | a :: b :: r, h, n => by
    obtain ⟨h1, h2⟩ := List.pairwise_cons.mp h
    obtain ⟨n1, n2⟩ := List.pairwise_cons.mp n
    refine ⟨?_, grow_srt (l := b :: r) h2 n2⟩
    cases q : HT.lexLt a b with
    | true => rfl
    | false => exact absurd (lexLt_tot q (h1 b List.mem_cons_self)) (n1 b List.mem_cons_self)
end Wk
end
section
set_option Elab.async false
set_option linter.all false
set_option maxRecDepth 100000
set_option maxHeartbeats 800000
/-! P26: a drawn window. Own work. -/
namespace Wk
open PySem J
def keyE : Env' → M D := (eN fTuple (aCons (e3 dSlice (eL (fLc (iRange (aCons (eF m__law_pick (aCons (eVar 0) (aCons (e3 dSlice (eL (aCons (eVar 2) (aCons (eVar 2) (aCons (eVar 2) (aCons (eC (.int 0)) (aCons (eC (.int 1)) (aNil))))))) (oNone) (oSome (e2 dAdd (eC (.int 4)) (eVar 2)))) (aNil)))) (aNil))) [6] (.nm 6) (tT) (eF m__law_draw (aCons (eVar 0) (aCons (eVar 1) (aNil)))))) (oNone) (oSome (eVar 2))) (aNil)))
def winB : SM := (sSeq (sSet 5 keyE) (sPut (eVar 3) (eVar 5) (eF m__law_some_weights (aCons (eVar 0) (aCons (eVar 1) (aNil))))))
theorem wp_key {r S : Sto} {many k : Nat} {v3 : D} {o4 o5 : Option D} (h : Dk r S) (hm : 2 ≤ many ∧ many ≤ 6) (hk : k ≤ 2) : Wp (keyE [some (.ob 1), some (.int (many : Nat)), some (.int (k : Nat)), some v3, o4, o5, none] S) fun v S' => ∃ l, v = dI l ∧ TokOk many l ∧ l.length ≤ k ∧ Dk r S' := by
  have hc : ∃ cs, dSlice (.lst [.int (k : Nat), .int (k : Nat), .int (k : Nat), .int 0, .int 1]) none (some (4 + (k : Nat))) = some (.lst cs) ∧ cs ≠ [] ∧ cs.length < 1000000 ∧ ∀ z ∈ cs, ∃ n : Nat, z = .int (n : Nat) ∧ n ≤ 2 := by
    have : k = 0 ∨ k = 1 ∨ k = 2 := by omega
    rcases this with rfl | rfl | rfl
    · refine ⟨[.int 0, .int 0, .int 0, .int 0], rfl, by simp, by simp, fun z hz => ?_⟩
      simp only [List.mem_cons, List.not_mem_nil, or_false] at hz
      rcases hz with rfl | rfl | rfl | rfl <;> exact ⟨0, rfl, by omega⟩
    · refine ⟨[.int 1, .int 1, .int 1, .int 0, .int 1], rfl, by simp, by simp, fun z hz => ?_⟩
      simp only [List.mem_cons, List.not_mem_nil, or_false] at hz
      rcases hz with rfl | rfl | rfl | rfl | rfl
      · exact ⟨1, rfl, by omega⟩
      · exact ⟨1, rfl, by omega⟩
      · exact ⟨1, rfl, by omega⟩
      · exact ⟨0, rfl, by omega⟩
      · exact ⟨1, rfl, by omega⟩
    · refine ⟨[.int 2, .int 2, .int 2, .int 0, .int 1], rfl, by simp, by simp, fun z hz => ?_⟩
      simp only [List.mem_cons, List.not_mem_nil, or_false] at hz
      rcases hz with rfl | rfl | rfl | rfl | rfl
      · exact ⟨2, rfl, by omega⟩
      · exact ⟨2, rfl, by omega⟩
      · exact ⟨2, rfl, by omega⟩
      · exact ⟨0, rfl, by omega⟩
      · exact ⟨1, rfl, by omega⟩
  obtain ⟨cs, ec, hc0, hc1, hc2⟩ := hc
  obtain ⟨v, S1, e1, hv, h1⟩ := wp_pick h hc0 hc1
  obtain ⟨n, rfl, hn⟩ := hc2 v hv
  have rg := rgD_nat (n := n) (by omega)
  obtain ⟨zs, S2, e2, hn2, q, h2⟩ := wp_lc (r := r) (f := lcEl [6] (.nm 6) tT (eF m__law_draw (aCons (eVar 0) (aCons (eVar 1) (aNil)))) [some (.ob 1), some (.int (many : Nat)), some (.int (k : Nat)), some v3, o4, o5, none]) (fun z => ∃ i, z = .int i ∧ (0 ≤ i ∧ i < (many : Nat))) ((List.range n).map fun i => .int (i : Nat)) S1 h1 (fun d _ S hS => by
    obtain ⟨w, S3, e3, x, rfl, a, b, h3⟩ := wp_draw (many := (many : Nat)) hS (by omega) (by omega)
    refine ⟨some (.int x), S3, ?_, _, rfl, ⟨x, rfl, a, b⟩, h3⟩
    rw [lcEl_tT]
    simp only [wipeE_cons, wipeE_nil, List.set_cons_succ, List.set_cons_zero, asgT_nm, List.length_cons, List.length_nil, Nat.reduceAdd, Nat.reduceLT, if_true, Option.bind_some, eF_ev, aCons_ev, aNil_ev, eVar_ev, List.getElem?_cons_zero, List.getElem?_cons_succ, id_eq, e3])
  obtain ⟨l, rfl, hl⟩ := ints_of (P := fun i => 0 ≤ i ∧ i < (many : Nat)) q
  refine Wp.of (a := dI (l.take k)) (S := S2) ?_ ⟨l.take k, rfl, fun t ht => hl t (List.mem_of_mem_take ht), by rw [List.length_take]; omega, h2⟩
  have ck : cutL (l.map D.int) none (some (k : Nat)) = (l.take k).map D.int := by rw [cut_take, List.map_take]
  unfold keyE
  rw [eN_ev, aCons_ev, e3_ev, eL_ev, fLc_ev]
  simp only [iRange_ev, aCons_ev, aNil_ev, eF_ev, e3_ev, eL_ev, eVar_ev, eC_ev, List.getElem?_cons_zero, List.getElem?_cons_succ, Option.bind_some, oNone_ev, oSome_ev, J.e2_ev, dAdd_int, ec, e1, rg]
  rw [e2]
  simp only [Option.bind_some, dSlice_lst, ck, fTuple_lst]
theorem wp_winB {r S : Sto} {es : List Pr} {many k : Nat} {o4 o5 : Option LV} (h : Dw r es S) (ho : EsOk many k es) (hz : es.length ≤ 100) (hm : 2 ≤ many ∧ many ≤ 6) (hk : k ≤ 2) :
    Wp (winB [some (.val (.ob 1)), some (.val (.int (many : Nat))), some (.val (.int (k : Nat))), some (.val (.ob (2 + r.length))), o4, o5, none] S) fun p S' => p.1 = .nx ∧ ∃ es' o5', p.2 = [some (.val (.ob 1)), some (.val (.int (many : Nat))), some (.val (.int (k : Nat))), some (.val (.ob (2 + r.length))), o4, o5', none] ∧ EsOk many k es' ∧ es'.length ≤ es.length + 1 ∧ Dw r es' S' := by
  obtain ⟨v, S1, e1, l, rfl, hl, hl2, h1⟩ := wp_key (r := r ++ [Cell.dT (es.map kv)]) (v3 := .ob (2 + r.length)) (o4 := o4.bind LV.v) (o5 := o5.bind LV.v) h hm hk
  obtain ⟨w, S2, e2, ws, rfl, hw, h2⟩ := wp_weights h1 hm
  obtain ⟨es', S3, e3, ho', hz', h3⟩ := put_eq (n := many) (k := k) (key := l) (w := ws) (r := r) (es := es) h2 hz ho hl hl2 hw
  refine Wp.of (a := (.nx, [some (.val (.ob 1)), some (.val (.int (many : Nat))), some (.val (.int (k : Nat))), some (.val (.ob (2 + r.length))), o4, some (.val (dI l)), none])) (S := S3) ?_ ⟨rfl, es', _, rfl, ho', hz', h3⟩
  unfold winB
  generalize dI l = dl at *
  generalize dI ws = dw at *
  generalize 2 + r.length = idx at *
  rw [sSeq_nx (m1 := sSet 5 _) (ρ' := [some (.val (.ob 1)), some (.val (.int (many : Nat))), some (.val (.int (k : Nat))), some (.val (.ob idx)), o4, some (.val dl), none]) (S' := S1) (by
    rw [sSet_ev]
    simp only [vis_cons, vis_nil, Option.bind_some, Option.bind_none, LV.v_val]
    rw [e1]; rfl)]
  rw [sPut_ev]
  simp only [eF_ev, aCons_ev, aNil_ev, eVar_ev, vis_cons, vis_nil, Option.bind_some, Option.bind_none, LV.v_val, List.getElem?_cons_zero, List.getElem?_cons_succ, e2, e3]
theorem wp_winL {r : Sto} {many k : Nat} (hm : 2 ≤ many ∧ many ≤ 6) (hk : k ≤ 2) : ∀ (xs : List D) (S : Sto) (es : List Pr) (o4 o5 : Option LV), Dw r es S → EsOk many k es → es.length + xs.length ≤ 4 →
    Wp (sForGo (.nm 4) winB xs [some (.val (.ob 1)), some (.val (.int (many : Nat))), some (.val (.int (k : Nat))), some (.val (.ob (2 + r.length))), o4, o5, none] S) fun p S' => p.1 = .nx ∧ ∃ es' o4' o5', p.2 = [some (.val (.ob 1)), some (.val (.int (many : Nat))), some (.val (.int (k : Nat))), some (.val (.ob (2 + r.length))), o4', o5', none] ∧ EsOk many k es' ∧ es'.length ≤ 4 ∧ Dw r es' S'
  | [], S, es, o4, o5, h, ho, hz => ⟨_, _, rfl, rfl, es, o4, o5, rfl, ho, by simpa using hz, h⟩
  | x :: xs, S, es, o4, o5, h, ho, hz => by
    obtain ⟨⟨fl, ρ'⟩, S1, e1, hf, es1, o5', hρ, ho1, hz1, h1⟩ := wp_winB (o4 := some (.val x)) (o5 := o5) h ho (by simp at hz; omega) hm hk
    simp only at hf hρ
    subst hf hρ
    obtain ⟨p, S2, e2, q⟩ := wp_winL hm hk xs S1 es1 (some (.val x)) o5' h1 ho1 (by simp at hz; omega)
    refine ⟨p, S2, ?_, q⟩
    unfold sForGo
    generalize winB = bd at *
    generalize 2 + r.length = idx at *
    simp only [asgT_nm, List.length_cons, List.length_nil, Nat.reduceAdd, Nat.reduceLT, if_true, Option.bind_some, List.set_cons_succ, List.set_cons_zero, e1]
    exact e2
theorem wp_window {r S : Sto} {many : Nat} (h : Dk r S) (hm : 2 ≤ many ∧ many ≤ 6) : Wp (m__law_window [.ob 1, .int (many : Nat)] S) fun v S' => ∃ W r', v = dWin W ∧ WinOk W ∧ W.many = many ∧ Dk r' S' := by
  obtain ⟨v, S1, e1, x, rfl, a1, b1, h1⟩ := wp_draw (many := 3) h (by decide) (by decide)
  obtain ⟨k, rfl⟩ := Int.eq_ofNat_of_zero_le a1
  have hk : k ≤ 2 := by omega
  have hw0 : Dw r [] (S1 ++ [.dT []]) := by
    obtain ⟨l, m, q, rfl, hl⟩ := h1
    exact ⟨l, m, q, rfl, hl⟩
  have hlen : S1.length = 2 + r.length := by
    obtain ⟨l, m, q, rfl, hl⟩ := h1
    simp; omega
  -- how many
  obtain ⟨c, S2, e2, hw2, hc⟩ : ∃ (c : Nat) (S2 : Sto), (iRange (aCons (eIf (tB (J.e2 dGt (eVar 2) (eC (.int 0)))) (eF m__law_draw (aCons (eVar 0) (aCons (eC (.int 5)) (aNil)))) (eF m__law_draw (aCons (eVar 0) (aCons (eC (.int 2)) (aNil))))) (aNil))) [some (.ob 1), some (.int (many : Nat)), some (.int (k : Nat)), some (.ob (2 + r.length)), none, none, none] (S1 ++ [.dT []]) = some ((List.range c).map fun i => .int (i : Nat), S2) ∧ Dw r [] S2 ∧ c ≤ 4 := by
    by_cases hk0 : (0 : Int) < (k : Nat)
    · obtain ⟨v, S2, e2, x, rfl, a2, b2, h2⟩ := wp_draw (many := 5) hw0 (by decide) (by decide)
      obtain ⟨c, rfl⟩ := Int.eq_ofNat_of_zero_le a2
      refine ⟨c, S2, ?_, h2, by omega⟩
      have rg := rgD_nat (n := c) (by omega)
      simp only [iRange_ev, aCons_ev, aNil_ev, eIf_ev, tB_ev, J.e2_ev, eF_ev, eVar_ev, eC_ev, List.getElem?_cons_zero, List.getElem?_cons_succ, Option.bind_some, dGt_int, decide_eq_true hk0, if_true, e2, rg]
    · obtain ⟨v, S2, e2, x, rfl, a2, b2, h2⟩ := wp_draw (many := 2) hw0 (by decide) (by decide)
      obtain ⟨c, rfl⟩ := Int.eq_ofNat_of_zero_le a2
      refine ⟨c, S2, ?_, h2, by omega⟩
      have rg := rgD_nat (n := c) (by omega)
      simp only [iRange_ev, aCons_ev, aNil_ev, eIf_ev, tB_ev, J.e2_ev, eF_ev, eVar_ev, eC_ev, List.getElem?_cons_zero, List.getElem?_cons_succ, Option.bind_some, dGt_int, decide_eq_false hk0, Bool.false_eq_true, if_false, e2, rg]
  obtain ⟨⟨fl, ρ'⟩, S3, e3, hf, es, o4, o5, hρ, ho, hz, h3⟩ := wp_winL (r := r) (k := k) hm hk ((List.range c).map fun i => .int (i : Nat)) S2 [] none none hw2 ⟨by simp, fun e he => absurd he List.not_mem_nil⟩ (by simpa using hc)
  simp only at hf hρ
  subst hf hρ
  -- the entries in their order
  have e4 := sorted_eq h3 (by omega) ho (by omega)
  obtain ⟨v, S4, e5, df, rfl, hdf, h4⟩ := wp_weights h3 hm
  have hperm := srtL_perm (es.map (·.1))
  have hnd : (srtL (es.map (·.1))).Nodup := hperm.nodup_iff.mpr ho.nd
  have hgrow := grow_srt (f := wOf es) (srtL_srt (es.map (·.1))) hnd
  have hmem : ∀ key ∈ srtL (es.map (·.1)), key ∈ es.map (·.1) := fun key hk => hperm.mem_iff.mp hk
  have hln : (srtL (es.map (·.1))).length = es.length := by rw [hperm.length_eq, List.length_map]
  have l5 : lcGo (lcEl [5] (.nm 5) (tT) (eTup (aCons (eVar 5) (aCons (e2S dIx (eVar 3) (eVar 5)) (aNil)))) [some (.ob 1), some (.int (many : Nat)), some (.int (k : Nat)), some (.ob (2 + r.length)), o4.map LV.d, o5.map LV.d, none]) ((srtL (es.map (·.1))).map dI) S3 = some (((srtL (es.map (·.1))).map fun key => (key, wOf es key)).map dPr, S3) := by
    rw [List.map_map]
    exact lcGo_map dI (fun key => dPr (key, wOf es key)) _ fun key hk => lcEl_one rfl (by
      have hx := (ix_es h3 (hmem key hk)).1
      simp only [eTup_ev, aCons_ev, aNil_ev, e2S_ev, eVar_ev, List.getElem?_cons_zero, List.getElem?_cons_succ, wipeE_cons, wipeE_nil, List.set_cons_succ, List.set_cons_zero, Option.bind_some, id_eq]
      rw [hx]; rfl)
  have hfin : WinOk ⟨many, k, (srtL (es.map (·.1))).map fun key => (key, wOf es key), df⟩ := by
    refine ⟨hm, hk, fun e he => ?_, fun e he => ?_, hdf, hgrow, by simp only [List.length_map, hln]; exact hz⟩
    · obtain ⟨key, hkey, rfl⟩ := List.mem_map.mp he
      have := ho.ok _ (ix_es h3 (hmem key hkey)).2
      exact ⟨this.1, this.2.1⟩
    · obtain ⟨key, hkey, rfl⟩ := List.mem_map.mp he
      exact (ho.ok _ (ix_es h3 (hmem key hkey)).2).2.2
  refine wp_def rfl (Wp.of (a := (.ret (dWin ⟨many, k, (srtL (es.map (·.1))).map fun key => (key, wOf es key), df⟩), kill [some (.val (.ob 1)), some (.val (.int (many : Nat))), some (.val (.int (k : Nat))), some (.val (.ob (2 + r.length))), o4, o5, none])) (S := S4) ?_ ⟨_, rfl, _, _, rfl, hfin, rfl, h4⟩)
  show (sSeq (sAsg _ _) (sSeq (sFor _ _ winB) _)) [some (.val (.ob 1)), some (.val (.int (many : Nat))), none, none, none, none, none] S = _
  clear hfin hmem hgrow hnd hperm hln
  unfold dWin
  generalize ((srtL (es.map (·.1))).map fun key => (key, wOf es key)).map dPr = fin at *
  generalize (srtL (es.map (·.1))).map dI = keys at *
  generalize 2 + r.length = idx at *
  rw [sSeq_nx (m1 := sAsg _ _) (ρ' := [some (.val (.ob 1)), some (.val (.int (many : Nat))), some (.val (.int (k : Nat))), some (.val (.ob idx)), none, none, none]) (S' := S1 ++ [.dT []]) (by
    rw [sAsg_ev]
    simp only [eTup_ev, aCons_ev, aNil_ev, eF_ev, eC_ev, eDicNew_ev, eVar_ev, vis_val, vis_none, vis_nil, List.getElem?_cons_zero, List.getElem?_cons_succ, Option.bind_some, e1, hlen]
    rfl)]
  rw [sSeq_nx (m1 := sFor _ _ _) (S' := S3) (ρ' := [some (.val (.ob 1)), some (.val (.int (many : Nat))), some (.val (.int (k : Nat))), some (.val (.ob idx)), o4, o5, none]) (by
    rw [sFor_ev]
    simp only [vis_val, vis_none, vis_nil]
    rw [e2]
    exact e3)]
  rw [sRet_ev, eTup_ev]
  simp only [aCons_ev, aNil_ev, eC_ev, eVar_ev, fz_cons, fz_nil, Option.map_some, Option.map_none, LV.d_val, List.getElem?_cons_zero, List.getElem?_cons_succ, Option.bind_some, eN_ev, eL_ev, fLc_ev, iSeq_ev, eNS_ev, e4, itemsD_lst, l5, fTuple_lst, eF_ev, e5]
end Wk
end
section
set_option Elab.async false
set_option linter.all false
set_option maxRecDepth 100000
set_option maxHeartbeats 800000
/-! P27: a drawn vocabulary. Own work. -/
namespace Wk
open PySem J
theorem vsD_strs : ∀ l : List Str, vsD (l.map D.str) = some (l.map L2.V.str)
  | [] => rfl
  | a :: l => by
    show ((vD (.str a)).bind fun v => (vsD (l.map D.str)).map (v :: ·)) = _
    rw [vsD_strs l]; rfl
theorem in_strs (x : Str) (P : List Str) : dIn (.str x) (.lst (P.map D.str)) = some (.bl (decide (x ∈ P))) := by
  have : dInB (.str x) (.lst (P.map D.str)) = some (L2.inV (.str x) (P.map L2.V.str)) := by
    show ((vD (.str x)).bind fun v => (vsD (P.map D.str)).map fun vs => L2.inV v vs) = _
    rw [vsD_strs]; rfl
  have h2 : L2.inV (.str x) (P.map L2.V.str) = decide (x ∈ P) := by
    unfold L2.inV
    rw [List.any_map]
    clear this
    induction P with
    | nil => rfl
    | cons a l ih =>
      rw [List.any_cons, ih]
      show ((a == x) || decide (x ∈ l)) = _
      by_cases e : a = x
      · subst e; simp
      · have hb : (a == x) = false := by simpa [beq_iff_eq] using e
        rw [hb, Bool.false_or]
        by_cases q : x ∈ l
        · rw [decide_eq_true q, decide_eq_true (List.mem_cons_of_mem _ q)]
        · rw [decide_eq_false q, decide_eq_false fun z => (List.mem_cons.mp z).elim (fun w => e w.symm) q]
  simp [dIn, this, h2]
theorem pairsD_map : ∀ ps : List (Int × Int), pairsD (ps.map dPair) = some ps
  | [] => rfl
  | p :: ps => by
    show ((pairD (dPair p)).bind fun p => (pairsD (ps.map dPair)).map (p :: ·)) = _
    rw [pairsD_map ps]; rfl
theorem last_max {ps : List (Int × Int)} (h : ps ≠ []) : ∃ q, (srtP ps).getLast? = some q ∧ q ∈ ps ∧ ∀ p ∈ ps, p.1 ≤ q.1 := by
  have hp := srtP_perm ps
  have hs := srtP_srt ps
  have hne : srtP ps ≠ [] := fun z => by rw [z] at hp; exact h (List.Perm.eq_nil hp.symm)
  refine ⟨(srtP ps).getLast hne, List.getLast?_eq_some_getLast hne, hp.mem_iff.mp (List.getLast_mem hne), fun p hpm => ?_⟩
  have hm := hp.mem_iff.mpr hpm
  have e := List.dropLast_concat_getLast hne
  generalize (srtP ps).getLast hne = q0 at *
  rw [← e] at hm hs
  rcases List.mem_append.mp hm with q | q
  · have a := SrtO.lexB_no.mp ((List.pairwise_append.mp hs).2.2 p q q0 List.mem_cons_self)
    omega
  · rw [List.mem_singleton.mp q]; exact Int.le_refl _
def enP : Nat → List Str → List (Int × Int)
  | _, [] => []
  | n, x :: r => ((x.length : Int), (n : Int)) :: enP (n + 1) r
theorem enP_mem : ∀ {P : List Str} {n : Nat} {q : Int × Int}, q ∈ enP n P → ∃ i, i < P.length ∧ q = (((P.getD i "").length : Int), ((n + i : Nat) : Int))
  | [], n, q, h => absurd h List.not_mem_nil
  | x :: P, n, q, h => by
    rcases List.mem_cons.mp h with rfl | h
    · exact ⟨0, by simp, rfl⟩
    · obtain ⟨i, hi, rfl⟩ := enP_mem (P := P) h
      exact ⟨i + 1, by simpa using hi, by simp; omega⟩
theorem enP_at : ∀ {P : List Str} {n i : Nat}, i < P.length → (((P.getD i "").length : Int), ((n + i : Nat) : Int)) ∈ enP n P
  | [], n, i, h => by simp at h
  | x :: P, n, 0, h => List.mem_cons_self
  | x :: P, n, i + 1, h => by
    refine List.mem_cons_of_mem _ ?_
    have := enP_at (P := P) (n := n + 1) (i := i) (by simpa using h)
    rw [show n + (i + 1) = n + 1 + i by omega]
    exact this
/-! ### what holds while merges are drawn -/
theorem PO.snoc : ∀ {n : Nat} {ms : List (Int × Int)} {p : Int × Int}, PO n ms → ((1 ≤ p.1 ∧ p.1 < (n + ms.length : Nat)) ∧ (1 ≤ p.2 ∧ p.2 < (n + ms.length : Nat))) → PO n (ms ++ [p])
  | n, [], p, _, h => ⟨by simpa using h, trivial⟩
  | n, q :: ms, p, h, hp => ⟨h.1, PO.snoc (ms := ms) h.2 (by simp at hp ⊢; omega)⟩
structure VI (ls : Str) (ms : List (Int × Int)) (many : Nat) : Prop where
  lt : LetOk ls
  po : PO (1 + ls.length) ms
  nd : (pcs (base ls) ms).Nodup
  short : ∀ x ∈ pcs (base ls) ms, x.length ≤ 2 ^ ms.length
  cnt : (pcs (base ls) ms).length ≤ many
  one : 1 ≤ ((pcs (base ls) ms).getD 1 "").length
theorem VI.len {ls : Str} {ms : List (Int × Int)} {many : Nat} (h : VI ls ms many) (hm : many ≤ 6) : (pcs (base ls) ms).length = 1 + ls.length + ms.length ∧ ms.length ≤ 4 := by
  have a := pcs_len ms (base ls)
  rw [base_len] at a
  have := h.cnt
  have := h.lt.len
  omega
theorem VI.ok {ls : Str} {ms : List (Int × Int)} {many : Nat} (h : VI ls ms many) (hm : many ≤ 6) : VocOk ⟨ls, ms⟩ := by
  have hl := h.len hm
  refine ⟨h.lt, by simp only; omega, h.po, h.nd, fun x hx => ?_⟩
  have := h.short x hx
  have h2 : 2 ^ ms.length ≤ 2 ^ 4 := Nat.pow_le_pow_right (by decide) hl.2
  omega
theorem getD_app1 {P : List Str} {x : Str} {i : Nat} (h : i < P.length) : (P ++ [x]).getD i "" = P.getD i "" := by
  rw [List.getD_eq_getElem?_getD, List.getD_eq_getElem?_getD, List.getElem?_append_left h]
theorem VI.step {ls : Str} {ms : List (Int × Int)} {many : Nat} {p : Int × Int} (h : VI ls ms many) (hm : many ≤ 6) (hlt : (pcs (base ls) ms).length < many)
    (hp : (1 ≤ p.1 ∧ p.1 < ((pcs (base ls) ms).length : Nat)) ∧ (1 ≤ p.2 ∧ p.2 < ((pcs (base ls) ms).length : Nat))) (hn : nxt (pcs (base ls) ms) p ∉ pcs (base ls) ms) : VI ls (ms ++ [p]) many := by
  have hl := h.len hm
  have e : pcs (base ls) (ms ++ [p]) = pcs (base ls) ms ++ [nxt (pcs (base ls) ms) p] := by rw [pcs_app]; rfl
  have hg : ∀ i : Int, 1 ≤ i → i < ((pcs (base ls) ms).length : Nat) → ((pcs (base ls) ms).getD i.toNat "").length ≤ 2 ^ ms.length := fun i h1 h2 => by
    have hi : i.toNat < (pcs (base ls) ms).length := by omega
    exact h.short _ (getD_mem ("" : Str) hi)
  refine ⟨h.lt, h.po.snoc ?_, ?_, fun x hx => ?_, ?_, ?_⟩
  · rw [hl.1] at hp; exact hp
  · rw [e, List.nodup_append]
    exact ⟨h.nd, by simp, fun a ha b hb z => by rw [List.mem_singleton.mp hb] at z; rw [z] at ha; exact hn ha⟩
  · rw [e] at hx
    rw [List.length_append, List.length_singleton, Nat.pow_succ]
    rcases List.mem_append.mp hx with hx | hx
    · have := h.short x hx; omega
    · rw [List.mem_singleton.mp hx]
      unfold nxt
      rw [Str.length_append]
      have := hg p.1 hp.1.1 hp.1.2
      have := hg p.2 hp.2.1 hp.2.2
      omega
  · rw [e, List.length_append]; simp; omega
  · rw [e, getD_app1 (by omega)]; exact h.one
theorem VI.zero {ls : Str} {many : Nat} (h : LetOk ls) (hc : 1 + ls.length ≤ many) : VI ls [] many := by
  have hl : ∀ x ∈ sgn ls, x.length = 1 := fun x hx => by
    obtain ⟨c, _, rfl⟩ := List.mem_map.mp hx
    rfl
  refine ⟨h, trivial, ?_, fun x hx => ?_, by show (base ls).length ≤ _; rw [base_len]; exact hc, ?_⟩
  · show (("" : Str) :: sgn ls).Nodup
    refine List.nodup_cons.mpr ⟨fun z => ?_, h.nd⟩
    have := hl _ z
    rw [len_nil] at this; omega
  · rcases List.mem_cons.mp hx with rfl | hx
    · rw [len_nil]; simp
    · rw [hl x hx]; simp
  · show 1 ≤ ((("" : Str) :: sgn ls).getD 1 "").length
    have := sgn_len ls
    cases hq : sgn ls with
    | nil => rw [hq] at this; have := h.len; simp at *; omega
    | cons x r =>
      show 1 ≤ x.length
      rw [hl x (by rw [hq]; exact List.mem_cons_self)]
      exact Nat.le_refl 1
/-- the last doubled longest piece is new -/
theorem longest_new {P : List Str} {i : Nat} (h : ∀ j, j < P.length → (P.getD j "").length ≤ (P.getD i "").length) (h1 : 1 ≤ (P.getD i "").length) : nxt P ((i : Int), (i : Int)) ∉ P := fun hm => by
  obtain ⟨j, hj, e⟩ := List.getElem_of_mem hm
  have e2 : P.getD j "" = nxt P ((i : Int), (i : Int)) := by rw [List.getD_eq_getElem?_getD, List.getElem?_eq_getElem hj, ← e]; rfl
  have := h j hj
  rw [e2] at this
  unfold nxt at this
  rw [Str.length_append] at this
  simp only [Int.toNat_natCast] at this
  omega
end Wk
end
section
set_option Elab.async false
set_option linter.all false
set_option maxRecDepth 100000
set_option maxHeartbeats 800000
/-! P28: a drawn vocabulary, the loop. Own work. -/
namespace Wk
open PySem J
def inE : Env' → M D := (e2 dIn (e2 dAdd (e2S dIx (eVar 4) (eVar 5)) (e2S dIx (eVar 4) (eVar 6))) (eVar 4))
def drE : Env' → M D := (e2 dAdd (eC (.int 1)) (eF m__law_draw (aCons (eVar 0) (aCons (e2 dSub (eN fLen (aCons (eVar 4) (aNil))) (eC (.int 1))) (aNil)))))
def laE : Env' → M D := (e2 dSub (eN fLen (aCons (eVar 4) (aNil))) (eC (.int 1)))
def loE : Env' → M D := (e2S dIx (e2S dIx (eNS fSortedS (aCons (eL (fLc (iEnum (eVar 4)) [7, 8] (.tp [.nm 7, .nm 8]) (tT) (eTup (aCons (eN fLen (aCons (eVar 8) (aNil))) (aCons (eVar 7) (aNil)))))) (aNil))) (e1 dNeg (eC (.int 1)))) (eC (.int 1)))
def voB : SM := (sSeq (sParF 5 6 drE drE)
    (sSeq (sIfF (tB inE) (sParF 5 6 laE laE) (sNop))
    (sSeq (sIfF (tB inE) (sSeq (sSetF 5 loE) (sSet 6 (eVar 5))) (sNop))
    (sSeq (sApp 3 (eTup (aCons (eVar 5) (aCons (eVar 6) (aNil)))))
    (sAppF 4 (e2 dAdd (e2S dIx (eVar 4) (eVar 5)) (e2S dIx (eVar 4) (eVar 6))))))))
/-- the variables -/
abbrev vEnv (many : Nat) (ls : Str) (A : List D) (P : List Str) (o5 o6 : Option LV) : LEnv := [some (.val (.ob 1)), some (.val (.int (many : Nat))), some (.val (.str ls)), some (.own A), some (.own (P.map D.str)), o5, o6, none, none]
abbrev vI (i : Int) : Option LV := some (.val (.int i))
theorem ix_P {P : List Str} {i : Int} {S : Sto} (h1 : 1 ≤ i) (h2 : i < (P.length : Nat)) : L2.atI (P.map D.str) i = some (.str (P.getD i.toNat "")) := by
  obtain ⟨n, rfl⟩ := Int.eq_ofNat_of_zero_le (show 0 ≤ i by omega)
  have hn : n < P.length := by omega
  rw [atI_nat, List.getElem?_map, Int.toNat_natCast, getD_at ("" : Str) hn]; rfl
theorem nx_eq {P : List Str} {i j : Int} {S : Sto} {many : Nat} {ls : Str} {A : List D} (hs : ∀ x ∈ P, x.length ≤ 5000) (h1 : 1 ≤ i ∧ i < (P.length : Nat)) (h2 : 1 ≤ j ∧ j < (P.length : Nat)) :
    (e2 dAdd (e2S dIx (eVar 4) (eVar 5)) (e2S dIx (eVar 4) (eVar 6))) (fz (vEnv many ls A P (vI i) (vI j))) S = some (.str (nxt P (i, j)), S) := by
  have a := ix_P (S := S) h1.1 h1.2
  have b := ix_P (S := S) h2.1 h2.2
  have c : dAdd (.str (P.getD i.toNat "")) (.str (P.getD j.toNat "")) = some (.str (nxt P (i, j))) := dAdd_str (by
    have hi : i.toNat < P.length := by omega
    have hj : j.toNat < P.length := by omega
    have := hs _ (getD_mem ("" : Str) hi)
    have := hs _ (getD_mem ("" : Str) hj)
    omega)
  generalize nxt P (i, j) = x at *
  generalize P.getD i.toNat "" = x1 at *
  generalize P.getD j.toNat "" = x2 at *
  simp [fz_cons, a, b, c]
theorem in_eq {P : List Str} {i j : Int} {S : Sto} {many : Nat} {ls : Str} {A : List D} (hs : ∀ x ∈ P, x.length ≤ 5000) (h1 : 1 ≤ i ∧ i < (P.length : Nat)) (h2 : 1 ≤ j ∧ j < (P.length : Nat)) :
    inE (fz (vEnv many ls A P (vI i) (vI j))) S = some (.bl (decide (nxt P (i, j) ∈ P)), S) := by
  have e := nx_eq (S := S) (many := many) (ls := ls) (A := A) hs h1 h2
  unfold inE
  rw [e2_ev, e]
  simp only [Option.bind_some]
  rw [eVar_at (d := .lst (P.map D.str)) rfl]
  simp only [Option.bind_some, in_strs]
theorem la_eq {P : List Str} {S : Sto} {many : Nat} {ls : Str} {A : List D} {o5 o6 : Option LV} : laE (fz (vEnv many ls A P o5 o6)) S = some (.int ((P.length : Int) - 1), S) := by
  have : (P.map D.str).length = P.length := by simp
  unfold laE
  rw [e2_ev, eN_ev, aCons_ev, eVar_at (d := .lst (P.map D.str)) rfl]
  simp only [aNil_ev, eC_ev, Option.bind_some, fLen_lst, dSub_int, this]
theorem lo_eq {P : List Str} {S : Sto} {many : Nat} {ls : Str} {A : List D} {o5 o6 : Option LV} (hs : ∀ x ∈ P, x.length ≤ 5000) (h0 : P ≠ []) : ∃ i : Nat, loE (fz (vEnv many ls A P o5 o6)) S = some (.int (i : Nat), S) ∧ i < P.length ∧ ∀ j, j < P.length → (P.getD j "").length ≤ (P.getD i "").length := by
  have lc : ∀ (Q : List Str) (n : Nat), (∀ x ∈ Q, x.length ≤ 5000) → ∀ a b c d e f g, lcGo (lcEl [7, 8] (.tp [.nm 7, .nm 8]) (tT) (eTup (aCons (eN fLen (aCons (eVar 8) (aNil))) (aCons (eVar 7) (aNil)))) [a, b, c, d, e, f, g, none, none]) (enumL n (Q.map D.str)) S = some ((enP n Q).map dPair, S) := fun Q => by
    induction Q with
    | nil => intro n _ a b c d e f g; rfl
    | cons x Q ih =>
      intro n hQ a b c d e f g
      have fl : fLen [.str x] = some (.int (x.length : Nat)) := by
        show (if x.length ≤ sizeLine then some (D.int (x.length : Nat)) else none) = _
        rw [if_pos (sz_line (by have := hQ x List.mem_cons_self; omega))]
      have ih' := ih (n + 1) (fun y hy => hQ y (List.mem_cons_of_mem _ hy)) a b c d e f g
      rw [List.map_cons, enumL, lcGo, lcEl_tT]
      simp [fl, ih', oc, enP, dPair]
  have hne : enP 0 P ≠ [] := by
    cases P with
    | nil => exact absurd rfl h0
    | cons x P => simp [enP]
  obtain ⟨q, hq, hm, hmax⟩ := last_max hne
  obtain ⟨i, hi, rfl⟩ := enP_mem hm
  refine ⟨i, ?_, hi, fun j hj => ?_⟩
  · have l := lc P 0 hs (some (.ob 1)) (some (.int (many : Nat))) (some (.str ls)) (some (.lst A)) (some (.lst (P.map D.str))) (o5.map LV.d) (o6.map LV.d)
    have s : fSortedS S [.lst ((enP 0 P).map dPair)] = some (.lst ((srtP (enP 0 P)).map dPair)) := by
      show ((pairsD ((enP 0 P).map dPair)).map fun ps => D.lst ((srtP ps).map dPair)) = _
      rw [pairsD_map]; rfl
    have g : L2.atI ((srtP (enP 0 P)).map dPair) (-1) = some (dPair (((P.getD i "").length : Int), ((0 + i : Nat) : Int))) := by
      rw [atI_m1, List.getLast?_map, hq]; rfl
    rw [Nat.zero_add] at g
    generalize (srtP (enP 0 P)).map dPair = sl at *
    generalize (enP 0 P).map dPair = el at *
    unfold loE
    have l' : (eL (fLc (iEnum (eVar 4)) [7, 8] (.tp [.nm 7, .nm 8]) (tT) (eTup (aCons (eN fLen (aCons (eVar 8) (aNil))) (aCons (eVar 7) (aNil)))))) (fz (vEnv many ls A P o5 o6)) S = some (.lst el, S) := by
      rw [eL_ev, fLc_ev, iEnum_ev, eVar_at (d := .lst (P.map D.str)) rfl]
      simp only [Option.bind_some, seqD_lst]
      show ((lcGo _ (enumL 0 (P.map D.str)) S).bind _) = _
      rw [show fz (vEnv many ls A P o5 o6) = [some (.ob 1), some (.int (many : Nat)), some (.str ls), some (.lst A), some (.lst (P.map D.str)), o5.map LV.d, o6.map LV.d, none, none] from rfl, l]
      rfl
    rw [e2S_ev, e2S_ev, eNS_ev, aCons_ev, l']
    simp only [aNil_ev, Option.bind_some, s, e1_ev, eC_ev, dNeg_int, dIx_lst, g, dPair, dIx_tup, atI_1, List.getElem?_cons_succ, List.getElem?_cons_zero]
  · have := hmax _ (enP_at (n := 0) hj)
    simp only at this
    omega
end Wk
end
section
set_option Elab.async false
set_option linter.all false
set_option maxRecDepth 100000
set_option maxHeartbeats 800000
/-! P29: a drawn vocabulary. Own work. -/
namespace Wk
open PySem J
theorem wp_dr {r S : Sto} {P : List Str} {many : Nat} {ls : Str} {A : List D} {o5 o6 : Option LV} (h : Dk r S) (hP : 2 ≤ P.length ∧ P.length ≤ 100) : Wp (drE (fz (vEnv many ls A P o5 o6)) S) fun v S' => ∃ i, v = .int i ∧ (1 ≤ i ∧ i < (P.length : Nat)) ∧ Dk r S' := by
  obtain ⟨v, S1, e1, x, rfl, a, b, h1⟩ := wp_draw (many := (P.length : Int) - 1) h (by omega) (by omega)
  refine Wp.of (a := .int (1 + x)) (S := S1) ?_ ⟨_, rfl, by omega, h1⟩
  have hl : (P.map D.str).length = P.length := by simp
  unfold drE
  rw [e2_ev, eC_ev]
  simp only [Option.bind_some]
  rw [eF_ev, aCons_ev, eVar_at (d := .ob 1) rfl]
  simp only [Option.bind_some]
  rw [aCons_ev, e2_ev, eN_ev, aCons_ev, eVar_at (d := .lst (P.map D.str)) rfl]
  simp only [aNil_ev, eC_ev, Option.bind_some, fLen_lst, dSub_int, hl]
  rw [e1]
  simp only [Option.bind_some, dAdd_int]
theorem vo2 {P : List Str} {i j : Int} {S : Sto} {many : Nat} {ls : Str} {A : List D} (hs : ∀ x ∈ P, x.length ≤ 5000) (h1 : 1 ≤ i ∧ i < (P.length : Nat)) (h2 : 1 ≤ j ∧ j < (P.length : Nat)) :
    ∃ i' j', sIfF (tB inE) (sParF 5 6 laE laE) (sNop) (vEnv many ls A P (vI i) (vI j)) S = some ((.nx, vEnv many ls A P (vI i') (vI j')), S) ∧ (1 ≤ i' ∧ i' < (P.length : Nat)) ∧ (1 ≤ j' ∧ j' < (P.length : Nat)) := by
  have e := in_eq (S := S) (many := many) (ls := ls) (A := A) hs h1 h2
  have l := la_eq (S := S) (many := many) (ls := ls) (A := A) (P := P) (o5 := vI i) (o6 := vI j)
  by_cases hm : nxt P (i, j) ∈ P
  · refine ⟨(P.length : Int) - 1, (P.length : Int) - 1, ?_, by omega, by omega⟩
    rw [sIfF_ev, tB_ev, e, decide_eq_true hm]
    simp only [Option.bind_some, if_true]
    rw [sParF_ev, l]
    simp only [Option.bind_some]
    rw [l]
    rfl
  · refine ⟨i, j, ?_, h1, h2⟩
    rw [sIfF_ev, tB_ev, e, decide_eq_false hm]
    rfl
theorem vo3 {P : List Str} {i j : Int} {S : Sto} {many : Nat} {ls : Str} {A : List D} (hs : ∀ x ∈ P, x.length ≤ 5000) (h1 : 1 ≤ i ∧ i < (P.length : Nat)) (h2 : 1 ≤ j ∧ j < (P.length : Nat)) (hz : (P.getD 0 "").length = 0) (ho : 1 ≤ (P.getD 1 "").length) :
    ∃ i' j', sIfF (tB inE) (sSeq (sSetF 5 loE) (sSet 6 (eVar 5))) (sNop) (vEnv many ls A P (vI i) (vI j)) S = some ((.nx, vEnv many ls A P (vI i') (vI j')), S) ∧ (1 ≤ i' ∧ i' < (P.length : Nat)) ∧ (1 ≤ j' ∧ j' < (P.length : Nat)) ∧ nxt P (i', j') ∉ P := by
  have e := in_eq (S := S) (many := many) (ls := ls) (A := A) hs h1 h2
  by_cases hm : nxt P (i, j) ∈ P
  · obtain ⟨k, l, hk, hmax⟩ := lo_eq (S := S) (many := many) (ls := ls) (A := A) (o5 := vI i) (o6 := vI j) hs (fun z => by rw [z] at h1; simp at h1; omega)
    have h1k : 1 ≤ (P.getD k "").length := by have := hmax 1 (by omega); omega
    have hk0 : k ≠ 0 := fun z => by rw [z] at h1k; omega
    refine ⟨k, k, ?_, by omega, by omega, longest_new hmax h1k⟩
    rw [sIfF_ev, tB_ev, e, decide_eq_true hm]
    simp only [Option.bind_some, if_true]
    rw [sSeq_nx (m1 := sSetF 5 loE) (ρ' := vEnv many ls A P (vI k) (vI j)) (S' := S) (by
      rw [sSetF_ev, l]; rfl)]
    rw [sSet_ev, eVar_at (d := .int (k : Nat)) rfl]
    rfl
  · refine ⟨i, j, ?_, h1, h2, hm⟩
    rw [sIfF_ev, tB_ev, e, decide_eq_false hm]
    rfl
theorem wp_voB {r S : Sto} {ls : Str} {ms : List (Int × Int)} {many : Nat} {o5 o6 : Option LV} (h : Dk r S) (hv : VI ls ms many) (hm : many ≤ 6) (hlt : (pcs (base ls) ms).length < many) :
    Wp (voB (vEnv many ls (ms.map dPair) (pcs (base ls) ms) o5 o6) S) fun p S' => p.1 = .nx ∧ ∃ q o5' o6', p.2 = vEnv many ls ((ms ++ [q]).map dPair) (pcs (base ls) (ms ++ [q])) o5' o6' ∧ VI ls (ms ++ [q]) many ∧ Dk r S' := by
  have hl := hv.len hm
  have hls := hv.lt.len
  have ok := hv.ok hm
  have hs : ∀ x ∈ pcs (base ls) ms, x.length ≤ 5000 := ok.short
  have h0 : ((pcs (base ls) ms).getD 0 "").length = 0 := by
    obtain ⟨t, ht⟩ := pcs_pre ms (base ls)
    rw [← ht]
    rfl
  have ho := hv.one
  have est : ∀ q : Int × Int, pcs (base ls) (ms ++ [q]) = pcs (base ls) ms ++ [nxt (pcs (base ls) ms) q] := fun q => by rw [pcs_app]; rfl
  have hst := fun q => hv.step (p := q) hm hlt
  generalize hP : pcs (base ls) ms = P at *
  obtain ⟨v, S1, e1, i, rfl, hi, h1⟩ := wp_dr (many := many) (ls := ls) (A := ms.map dPair) (P := P) (o5 := o5) (o6 := o6) h (by omega)
  obtain ⟨w, S2, e2, j, rfl, hj, h2⟩ := wp_dr (many := many) (ls := ls) (A := ms.map dPair) (P := P) (o5 := o5) (o6 := o6) h1 (by omega)
  obtain ⟨i2, j2, e3, hi2, hj2⟩ := vo2 (S := S2) (many := many) (ls := ls) (A := ms.map dPair) hs hi hj
  obtain ⟨i3, j3, e4, hi3, hj3, hn⟩ := vo3 (S := S2) (many := many) (ls := ls) (A := ms.map dPair) hs hi2 hj2 h0 ho
  have hvi := hst (i3, j3) ⟨hi3, hj3⟩ hn
  have ea : (ms ++ [(i3, j3)]).map dPair = ms.map dPair ++ [dPair (i3, j3)] := by simp
  have eb : (P ++ [nxt P (i3, j3)]).map D.str = P.map D.str ++ [.str (nxt P (i3, j3))] := by simp
  have z1 : (ms.map dPair).length < sizeLine := Nat.lt_of_lt_of_le (show (ms.map dPair).length < 100 by simp; omega) (sz_line (by decide))
  have z2 : (P.map D.str).length < sizeLine := Nat.lt_of_lt_of_le (show (P.map D.str).length < 100 by simp; omega) (sz_line (by decide))
  have e5 := nx_eq (S := S2) (many := many) (ls := ls) (A := ms.map dPair ++ [dPair (i3, j3)]) hs hi3 hj3
  refine Wp.of (a := (.nx, vEnv many ls ((ms ++ [(i3, j3)]).map dPair) (pcs (base ls) (ms ++ [(i3, j3)])) (vI i3) (vI j3))) (S := S2) ?_ ⟨rfl, (i3, j3), _, _, rfl, hvi, h2⟩
  unfold voB
  rw [sSeq_nx (m1 := sParF 5 6 drE drE) (ρ' := vEnv many ls (ms.map dPair) P (vI i) (vI j)) (S' := S2) (by
    rw [sParF_ev, e1]
    simp only [Option.bind_some]
    rw [e2]
    rfl)]
  rw [sSeq_nx e3, sSeq_nx e4]
  rw [sSeq_nx (m1 := sApp 3 _) (ρ' := vEnv many ls (ms.map dPair ++ [dPair (i3, j3)]) P (vI i3) (vI j3)) (S' := S2) (by
    rw [sApp_ev, eTup_ev, aCons_ev, eVar_at (d := .int i3) rfl]
    simp only [Option.bind_some]
    rw [aCons_ev, eVar_at (d := .int j3) rfl]
    simp only [aNil_ev, Option.bind_some]
    show (if (ms.map dPair).length < sizeLine then _ else none) = _
    rw [if_pos z1]; rfl)]
  rw [sAppF_ev, e5]
  simp only [Option.bind_some]
  show (if flatD (.str (nxt P (i3, j3))) = true ∧ (P.map D.str).length < sizeLine then putV 4 (.own (P.map D.str ++ [.str (nxt P (i3, j3))])) (vEnv many ls (ms.map dPair ++ [dPair (i3, j3)]) P (vI i3) (vI j3)) S2 else none) = _
  rw [if_pos ⟨rfl, z2⟩, est, vEnv, vEnv, ea, eb]
  rfl
theorem wp_voL {r : Sto} {ls : Str} {many : Nat} (hm : many ≤ 6) : ∀ (fuel : Nat) (S : Sto) (ms : List (Int × Int)) (o5 o6 : Option LV), Dk r S → VI ls ms many → many + 1 ≤ (pcs (base ls) ms).length + fuel →
    Wp (sWhile (tB (e2 dLt (eN fLen (aCons (eVar 4) (aNil))) (eVar 1))) voB fuel (vEnv many ls (ms.map dPair) (pcs (base ls) ms) o5 o6) S) fun p S' => p.1 = .nx ∧ ∃ ms' o5' o6', p.2 = vEnv many ls (ms'.map dPair) (pcs (base ls) ms') o5' o6' ∧ VI ls ms' many ∧ Dk r S'
  | 0, S, ms, o5, o6, h, hv, hf => by have := hv.cnt; omega
  | fuel + 1, S, ms, o5, o6, h, hv, hf => by
    have hl : ((pcs (base ls) ms).map D.str).length = (pcs (base ls) ms).length := by simp
    have ht : (tB (e2 dLt (eN fLen (aCons (eVar 4) (aNil))) (eVar 1))) (fz (vEnv many ls (ms.map dPair) (pcs (base ls) ms) o5 o6)) S = some (decide (((pcs (base ls) ms).length : Int) < (many : Nat)), S) := by
      rw [tB_ev, e2_ev, eN_ev, aCons_ev, eVar_at (d := .lst ((pcs (base ls) ms).map D.str)) rfl]
      simp only [aNil_ev, Option.bind_some, fLen_lst, hl]
      rw [eVar_at (d := .int (many : Nat)) rfl]
      simp only [Option.bind_some, dLt_int]
    by_cases hlt : (pcs (base ls) ms).length < many
    · obtain ⟨⟨fl, ρ'⟩, S1, e1, hfl, q, o5', o6', hρ, hv1, h1⟩ := wp_voB (o5 := o5) (o6 := o6) h hv hm hlt
      simp only at hfl hρ
      subst hfl hρ
      have hlen : (pcs (base ls) (ms ++ [q])).length = (pcs (base ls) ms).length + 1 := by rw [pcs_app]; simp [pcs]
      obtain ⟨p, S2, e2, h2⟩ := wp_voL hm fuel S1 (ms ++ [q]) o5' o6' h1 hv1 (by omega)
      refine ⟨p, S2, ?_, h2⟩
      unfold sWhile
      rw [ht, decide_eq_true (show ((pcs (base ls) ms).length : Int) < (many : Nat) by omega)]
      simp only [Option.bind_some, if_true]
      rw [e1]
      exact e2
    · refine ⟨(.nx, vEnv many ls (ms.map dPair) (pcs (base ls) ms) o5 o6), S, ?_, rfl, ms, o5, o6, rfl, hv, h⟩
      unfold sWhile
      rw [ht, decide_eq_false (show ¬ ((pcs (base ls) ms).length : Int) < (many : Nat) by omega)]
      rfl
theorem let_take {z : Str} (h : LetOk z) {n : Nat} (hn : 1 ≤ n) : LetOk (L2.cutS z none (some (n : Int))) ∧ (L2.cutS z none (some (n : Int))).length ≤ n := by
  have e : TL.tl (L2.cutS z none (some (n : Int))) = (TL.tl z).take n := by rw [tl_cut, cut_take]
  have hl := h.len
  rw [TL.len_tl] at hl
  refine ⟨⟨?_, fun c hc => h.small c (by rw [e] at hc; exact List.mem_of_mem_take hc), ?_⟩, ?_⟩
  · rw [TL.len_tl, e, List.length_take]; omega
  · have : sgn (L2.cutS z none (some (n : Int))) = (sgn z).take n := by
      show (TL.tl (L2.cutS z none (some (n : Int)))).map _ = ((TL.tl z).map _).take n
      rw [e, List.map_take]
    rw [this]
    exact (List.take_sublist n _).nodup h.nd
  · rw [TL.len_tl, e, List.length_take]; omega
theorem five : LetOk "abc" ∧ LetOk "zyx" ∧ LetOk "ba" ∧ LetOk "qrst" ∧ LetOk "a" := by
  refine ⟨⟨?_, ?_, ?_⟩, ⟨?_, ?_, ?_⟩, ⟨?_, ?_, ?_⟩, ⟨?_, ?_, ?_⟩, ⟨?_, ?_, ?_⟩⟩ <;> decide +kernel
theorem wp_voc {r S : Sto} {many : Nat} (h : Dk r S) (hm : 2 ≤ many ∧ many ≤ 6) : Wp (m__law_vocabulary [.ob 1, .int (many : Nat)] S) fun v S' => ∃ V, v = dVoc V ∧ VocOk V ∧ Dk r S' := by
  obtain ⟨v, S1, e1, hv, h1⟩ := wp_pick (xs := [.str "abc", .str "zyx", .str "ba", .str "qrst", .str "a"]) h (by simp) (by simp)
  have hz : ∃ z, v = .str z ∧ LetOk z := by
    have f := five
    simp only [List.mem_cons, List.not_mem_nil, or_false] at hv
    rcases hv with rfl | rfl | rfl | rfl | rfl
    · exact ⟨_, rfl, f.1⟩
    · exact ⟨_, rfl, f.2.1⟩
    · exact ⟨_, rfl, f.2.2.1⟩
    · exact ⟨_, rfl, f.2.2.2.1⟩
    · exact ⟨_, rfl, f.2.2.2.2⟩
  obtain ⟨z, rfl, hz⟩ := hz
  have hcast : ((many : Nat) : Int) - 1 = ((many - 1 : Nat) : Int) := by omega
  obtain ⟨hls, hll⟩ := let_take hz (n := many - 1) (by omega)
  have ec : dSlice (.str z) none (some ((many : Nat) - 1)) = some (.str (L2.cutS z none (some ((many - 1 : Nat) : Int)))) := by
    rw [hcast]
    show (if z.length ≤ sizeLine then some (D.str (L2.cutS z none (some ((many - 1 : Nat) : Int)))) else none) = _
    rw [if_pos (sz_line (by have := hz.len; omega))]
  generalize L2.cutS z none (some ((many - 1 : Nat) : Int)) = ls at *
  have f1 : fList [.str ls] = some (.lst ((sgn ls).map D.str)) := by
    show (if ls.length ≤ sizeLine then some (D.lst ((sgn ls).map .str)) else none) = _
    rw [if_pos (sz_line (by have := hls.len; omega))]
  have f2 : fAdd (.lst [.str ""]) (.lst ((sgn ls).map D.str)) = some ((base ls).map D.str) := by
    show (if [D.str ""].length + ((sgn ls).map D.str).length ≤ sizeLine then some ([D.str ""] ++ (sgn ls).map D.str) else none) = _
    rw [if_pos (sz_line (by have := hls.len; simp [sgn_len]; omega))]; rfl
  have v0 : VI ls [] many := VI.zero hls (by omega)
  obtain ⟨⟨fl, ρ'⟩, S2, e2, hfl, ms, o5, o6, hρ, hv, h2⟩ := wp_voL (r := r) (ls := ls) hm.2 4000 S1 [] none none h1 v0 (by omega)
  simp only at hfl hρ
  subst hfl hρ
  refine wp_def rfl (Wp.of (a := (.ret (dVoc ⟨ls, ms⟩), kill (vEnv many ls (ms.map dPair) (pcs (base ls) ms) o5 o6))) (S := S2) ?_ ⟨_, rfl, ⟨ls, ms⟩, rfl, hv.ok hm.2, h2⟩)
  show (sSeq _ (sSeq _ (sSeq (sWhile _ voB 4000) _))) [some (.val (.ob 1)), some (.val (.int (many : Nat))), none, none, none, none, none, none, none] S = _
  rw [sSeq_nx (m1 := sSet 2 _) (ρ' := [some (.val (.ob 1)), some (.val (.int (many : Nat))), some (.val (.str ls)), none, none, none, none, none, none]) (S' := S1) (by
    rw [sSet_ev, e3_ev]
    simp only [eF_ev, eL_ev, aCons_ev, aNil_ev, eC_ev, eVar_ev, vis_val, vis_none, vis_nil, List.getElem?_cons_zero, List.getElem?_cons_succ, Option.bind_some, e1, oNone_ev, oSome_ev, J.e2_ev, dSub_int, ec]
    rfl)]
  rw [sSeq_nx (m1 := sParOO 3 4 _ _) (ρ' := vEnv many ls [] (base ls) none none) (S' := S1) (by
    rw [sParOO_ev]
    simp only [f2_ev, eL_ev, eN_ev, aCons_ev, aNil_ev, eC_ev, eVar_ev, vis_val, vis_none, vis_nil, List.getElem?_cons_zero, List.getElem?_cons_succ, Option.bind_some, f1, f2]
    rfl)]
  rw [sSeq_nx (m1 := sWhile _ _ _) (ρ := vEnv many ls [] (base ls) none none) e2]
  rw [sRet_ev, eTup_ev]
  simp only [aCons_ev, aNil_ev, eC_ev, eVar_ev, vEnv, fz_cons, fz_nil, Option.map_some, Option.map_none, LV.d_val, LV.d_own, List.getElem?_cons_zero, List.getElem?_cons_succ, Option.bind_some, eN_ev, fTuple_lst]
end Wk
end
section
set_option Elab.async false
set_option linter.all false
set_option maxRecDepth 100000
set_option maxHeartbeats 800000
/-! P30: what is shown. Own work. -/
namespace Wk
open PySem J
def ShD (n m : Nat) (d : D) : Prop := ∃ p, toPy d = some p ∧ p.showable = true ∧ p.hasDict = false ∧ p.depth ≤ n ∧ p.shown.length ≤ m
theorem ShD.mono {n m n' m' : Nat} {d : D} (h : ShD n m d) (a : n ≤ n') (b : m ≤ m') : ShD n' m' d := by
  obtain ⟨p, h1, h2, h3, h4, h5⟩ := h
  exact ⟨p, h1, h2, h3, by omega, by omega⟩
theorem ShD.int {i : Int} (h : Num i) : ShD 1 600 (.int i) := by
  have hl : i.natAbs.log2 < 1920 := by
    by_cases h0 : i.natAbs = 0
    · rw [h0]; decide +kernel
    · exact (Nat.log2_lt h0).mpr (Nat.lt_trans h (by decide +kernel))
  refine ⟨.int i, by simp [toPy], by simp only [PyData.showable]; exact decide_eq_true hl, by simp only [PyData.hasDict], by simp [PyData.depth], ?_⟩
  simp only [PyData.shown]
  show (strI i).length ≤ 600
  rw [len_strI]
  have := dig_len h
  omega
def Asc (x : Str) : Prop := ∀ c ∈ TL.tl x, c < 128
theorem ShD.str {x : Str} {k : Nat} (h : Asc x) (hk : x.length ≤ k) : ShD 1 (10 * k + 2) (.str x) := by
  refine ⟨.str x, by simp [toPy], by simp only [PyData.showable], by simp only [PyData.hasDict], by simp [PyData.depth], ?_⟩
  simp only [PyData.shown]
  have := StrLaws.reprText_len x fun c hc => by have := h c hc; omega
  omega
theorem ShD.all {n m : Nat} : ∀ {xs : List D}, (∀ x ∈ xs, ShD n m x) → ∃ ps, toPyA xs = some ps ∧ PyData.showableAll ps = true ∧ PyData.hasDictAll ps = false ∧ PyData.depthAll ps ≤ n ∧ (PyData.shownAll ps).length = xs.length ∧ ∀ t ∈ PyData.shownAll ps, t.length ≤ m
  | [], _ => ⟨[], by simp [toPyA], by simp [PyData.showableAll], by simp [PyData.hasDictAll], by simp [PyData.depthAll], by simp [PyData.shownAll], by simp [PyData.shownAll]⟩
  | x :: xs, h => by
    obtain ⟨p, a, b, c, d, e⟩ := h x List.mem_cons_self
    obtain ⟨ps, a', b', c', d', e', f'⟩ := ShD.all fun y hy => h y (List.mem_cons_of_mem _ hy)
    refine ⟨p :: ps, by simp [toPyA, a, a'], by simp [PyData.showableAll, b, b'], by simp [PyData.hasDictAll, c, c'], by simp only [PyData.depthAll]; omega, by simp [PyData.shownAll, e'], fun t ht => ?_⟩
    simp only [PyData.shownAll] at ht
    rcases List.mem_cons.mp ht with rfl | ht
    · exact e
    · exact f' t ht
theorem tup_text_len {ts : List Str} {m : Nat} (h : ∀ t ∈ ts, t.length ≤ m) : (tupleText ts).length ≤ ts.length * (m + 2) + 3 := by
  have hs := sum_le (ls := ts.map (·.length)) (k := m) fun x hx => by
    obtain ⟨y, hy, rfl⟩ := List.mem_map.mp hx
    exact h y hy
  have hj := StrLaws.join_length_le ", " ts
  have e1 : ((", " : String) : Str).length = 2 := by decide +kernel
  have e2 : (("(" : String) : Str).length = 1 := by decide +kernel
  have e3 : ((",)" : String) : Str).length = 2 := by decide +kernel
  have e4 : ((")" : String) : Str).length = 1 := by decide +kernel
  rw [e1] at hj
  rw [List.length_map] at hs
  have e5 : ts.length * (m + 2) = ts.length * m + ts.length * 2 := Nat.mul_add _ _ _
  unfold tupleText
  rw [Str.length_append, Str.length_append, e2, e5]
  split
  · rw [e3]; omega
  · rw [e4]; omega
theorem ShD.tup {n m k : Nat} {xs : List D} (h : ∀ x ∈ xs, ShD n m x) (hk : xs.length ≤ k) : ShD (n + 1) (k * (m + 2) + 3) (.tup xs) := by
  obtain ⟨ps, a, b, c, d, e, f⟩ := ShD.all h
  refine ⟨.tuple ps, by simp [toPy, a], by simpa [PyData.showable] using b, by simpa [PyData.hasDict] using c, by simp only [PyData.depth]; omega, ?_⟩
  simp only [PyData.shown]
  have := tup_text_len f
  rw [e] at this
  have : xs.length * (m + 2) ≤ k * (m + 2) := Nat.mul_le_mul_right _ hk
  omega
theorem rep_tup {xs : List D} (h : ShD 50 10000000 (.tup xs)) : ∃ x, fRepr [.tup xs] = some (.str x) := by
  obtain ⟨p, a, b, c, d, e⟩ := h
  refine ⟨p.shown, ?_⟩
  show ((toPy (.tup xs)).bind fun p => if p.showable = true ∧ p.hasDict = false ∧ p.depth ≤ 50 ∧ p.shown.length ≤ sizeLine then some (D.str p.shown) else none) = _
  rw [a, Option.bind_some, if_pos ⟨b, c, d, Nat.le_trans e (by decide)⟩]
theorem rep_str {x : Str} {k : Nat} (h : Asc x) (hk : x.length ≤ k) (hz : k ≤ 1000000) : ∃ y, fRepr [.str x] = some (.str y) := by
  refine ⟨reprText x, ?_⟩
  show (if (reprText x).length ≤ sizeLine then some (D.str (reprText x)) else none) = _
  have := StrLaws.reprText_len x fun c hc => by have := h c hc; omega
  rw [if_pos (Nat.le_trans (show (reprText x).length ≤ 10000002 by omega) (by decide))]
/-! ### the values -/
theorem ShD.ints {l : List Int} {k : Nat} (h : ∀ i ∈ l, Num i) (hk : l.length ≤ k) : ShD 2 (k * 602 + 3) (dI l) := .tup (n := 1) (m := 600) (fun x hx => by
  obtain ⟨i, hi, rfl⟩ := List.mem_map.mp hx; exact .int (h i hi)) (by simpa using hk)
theorem vn_num {d : Nat} {l : List Int} (h : Vn 3 d l) : ∀ i ∈ l, Num i := fun i hi => Num.small (by have := h.2 i hi; omega)
theorem ShD.vecs {M : List (List Int)} {d : Nat} (h : ∀ r ∈ M, Vn 3 d r) (hd : d ≤ 2) (hk : M.length ≤ 6) : ShD 3 8000 (dII M) :=
  (ShD.tup (n := 2) (m := 1207) (k := 6) (fun x hx => by
    obtain ⟨r, hr, rfl⟩ := List.mem_map.mp hx
    exact ShD.ints (k := 2) (vn_num (h r hr)) (by have := (h r hr).1; omega)) (by simpa using hk)).mono (by omega) (by omega)
theorem ShD.lay {l : Lay} {d : Nat} (h : LayOk d l) (hd : d ≤ 2) : ShD 4 33000 (dLay l) :=
  (ShD.tup (n := 3) (m := 8000) (k := 4) (fun x hx => by
    simp only [List.mem_cons, List.not_mem_nil, or_false] at hx
    rcases hx with rfl | rfl | rfl | rfl
    · exact .vecs h.q.2 hd (by have := h.q.1; omega)
    · exact .vecs h.k.2 hd (by have := h.k.1; omega)
    · exact .vecs h.v.2 hd (by have := h.v.1; omega)
    · exact .vecs h.m.2 hd (by have := h.m.1; omega)) (by simp)).mono (by omega) (by omega)
theorem asc_kind : Asc "window" ∧ Asc "default" ∧ Asc "after" ∧ Asc "net" ∧ Asc "embed" ∧ Asc "place" ∧ Asc "out" ∧ Asc "query" ∧ Asc "key" ∧ Asc "worth" ∧ Asc "mix" ∧ Asc "merge" ∧ Asc "letters " ∧ Asc ":" ∧ Asc "vocabulary" ∧ Asc "\n" := by
  unfold Asc; decide +kernel
theorem ShD.net {N : Net} (h : NetOk N) : ShD 6 1000000 (dNet N) := by
  have hd := h.d
  have hm := h.many
  have lk := len_kind
  refine (ShD.tup (n := 5) (m := 100000) (k := 7) (fun x hx => ?_) (by simp)).mono (by omega) (by omega)
  simp only [List.mem_cons, List.not_mem_nil, or_false] at hx
  rcases hx with rfl | rfl | rfl | rfl | rfl | rfl | rfl
  · exact (ShD.str (k := 10) asc_kind.2.2.2.1 (by omega)).mono (by omega) (by omega)
  · exact (ShD.int (Num.small (by omega))).mono (by omega) (by omega)
  · exact (ShD.int (Num.small (by omega))).mono (by omega) (by omega)
  · exact (ShD.vecs h.emr hd.2 (by have := h.eml; omega)).mono (by omega) (by omega)
  · exact (ShD.vecs h.plr hd.2 (by have := h.pl0; omega)).mono (by omega) (by omega)
  · exact (ShD.tup (n := 4) (m := 33000) (k := 3) (fun x hx => by
      obtain ⟨l, hl, rfl⟩ := List.mem_map.mp hx
      exact .lay (h.ls l hl) hd.2) (by have := h.lsl; simpa using this)).mono (by omega) (by omega)
  · exact (ShD.vecs h.our hd.2 (by have := h.oul; omega)).mono (by omega) (by omega)
theorem S3.num {l : List Int} (h : S3 l) : ∀ i ∈ l, Num i := h.sz.num
theorem ShD.pr {p : Pr} (h1 : S3 p.1) (h2 : S3 p.2) (l1 : p.1.length ≤ 6) (l2 : p.2.length ≤ 6) : ShD 3 7300 (dPr p) :=
  (ShD.tup (n := 2) (m := 3615) (k := 2) (fun x hx => by
    simp only [List.mem_cons, List.not_mem_nil, or_false] at hx
    rcases hx with rfl | rfl
    · exact ShD.ints (k := 6) h1.num l1
    · exact ShD.ints (k := 6) h2.num l2) (by simp)).mono (by omega) (by omega)
theorem ShD.win {W : Win} (h : WinOk W) : ShD 5 1000000 (dWin W) := by
  have hm := h.many
  have hk := h.k
  have lk := len_kind
  refine (ShD.tup (n := 4) (m := 100000) (k := 5) (fun x hx => ?_) (by simp)).mono (by omega) (by omega)
  simp only [List.mem_cons, List.not_mem_nil, or_false] at hx
  rcases hx with rfl | rfl | rfl | rfl | rfl
  · exact (ShD.str (k := 10) asc_kind.1 (by omega)).mono (by omega) (by omega)
  · exact (ShD.int (Num.small (by omega))).mono (by omega) (by omega)
  · exact (ShD.int (Num.small (by omega))).mono (by omega) (by omega)
  · exact (ShD.tup (n := 3) (m := 7300) (k := 4) (fun x hx => by
      obtain ⟨e, he, rfl⟩ := List.mem_map.mp hx
      have a := h.keys e he
      have b := h.ws e he
      exact .pr (a.1.s3 hm.2 (by omega)) (b.s3 hm.2) (by omega) (by have := b.1; omega)) (by have := h.few; simpa using this)).mono (by omega) (by omega)
  · exact (ShD.ints (k := 6) (h.df.s3 hm.2).num (by have := h.df.1; omega)).mono (by omega) (by omega)
theorem ShD.voc {V : Voc} (h : VocOk V) : ShD 4 1000000 (dVoc V) := by
  have hl := h.ls.len
  refine (ShD.tup (n := 3) (m := 100000) (k := 3) (fun x hx => ?_) (by simp)).mono (by omega) (by omega)
  simp only [List.mem_cons, List.not_mem_nil, or_false] at hx
  rcases hx with rfl | rfl | rfl
  · exact (ShD.str (k := 10) asc_kind.2.2.2.2.2.2.2.2.2.2.2.2.2.2.1 (by decide +kernel)).mono (by omega) (by omega)
  · exact (ShD.str (k := 10) (fun c hc => by have := h.ls.small c hc; omega) (by omega)).mono (by omega) (by omega)
  · exact (ShD.tup (n := 2) (m := 1300) (k := 10) (fun x hx => by
      obtain ⟨p, hp, rfl⟩ := List.mem_map.mp hx
      exact (ShD.ints (l := prI p) (k := 2) (h.s3 p hp).num (by simp)).mono (by omega) (by omega)) (by have := h.few; simpa using this)).mono (by omega) (by omega)
/-! ### the texts -/
theorem asc_ln {w : Str} {l : List Int} (h : Asc w) : Asc (ln w l) := fun c hc => by
  rw [tl_ln] at hc
  rcases List.mem_append.mp hc with q | q
  · exact h c q
  · rcases Nat.lt_or_ge c 128 with z | z
    · exact z
    · exact absurd q (spL_free ⟨.inr (by omega), by omega, by omega⟩ l)
theorem asc_app {x y : Str} (h : Asc x) (h2 : Asc y) : Asc (x ++ y) := fun c hc => by
  rw [TL.tl_append] at hc
  exact (List.mem_append.mp hc).elim (h c) (h2 c)
theorem asc_joinL {s : List Nat} (hs : ∀ c ∈ s, c < 128) : ∀ {ps : List (List Nat)}, (∀ p ∈ ps, ∀ c ∈ p, c < 128) → ∀ c ∈ TL.joinL s ps, c < 128
  | [], _, c, hc => absurd hc List.not_mem_nil
  | [p], h, c, hc => h p List.mem_cons_self c hc
  | p :: q :: r, h, c, hc => by
    have hc' : c ∈ p ++ (s ++ TL.joinL s (q :: r)) := hc
    rcases List.mem_append.mp hc' with z | z
    · exact h p List.mem_cons_self c z
    rcases List.mem_append.mp z with z | z
    · exact hs c z
    · exact asc_joinL hs (ps := q :: r) (fun p hp => h p (List.mem_cons_of_mem _ hp)) c z
theorem asc_join {xs : List Str} (h : ∀ x ∈ xs, Asc x) : Asc (Txt.join "\n" xs) := fun c hc => by
  rw [TL.join_eq, TL.tl_join] at hc
  refine asc_joinL (s := TL.tl ("\n" : Str)) asc_kind.2.2.2.2.2.2.2.2.2.2.2.2.2.2.2 (fun p hp => ?_) c hc
  obtain ⟨x, hx, rfl⟩ := List.mem_map.mp hp
  exact h x hx
theorem LinesOk.len {xs : List Str} (h : LinesOk xs) (hf : xs.length ≤ 100) : (Txt.join "\n" xs).length ≤ 201000 := by
  have hs := sum_le (ls := xs.map (·.length)) (k := 2000) fun x hx => by
    obtain ⟨y, hy, rfl⟩ := List.mem_map.mp hx
    exact h.short y hy
  have hj := StrLaws.join_length_le "\n" xs
  rw [TL.join_eq]
  rw [List.length_map] at hs
  rw [len_nl] at hj
  omega
theorem asc_net {N : Net} (h : NetOk N) : Asc (Txt.join "\n" (netL N)) := asc_join fun x hx => by
  have ak := asc_kind
  rcases List.mem_cons.mp hx with rfl | hx
  · exact asc_ln ak.2.2.2.1
  have mp : ∀ {w : Str} {M : List (List Int)}, Asc w → x ∈ M.map (ln w) → Asc x := fun hw hm => by
    obtain ⟨r, _, rfl⟩ := List.mem_map.mp hm; exact asc_ln hw
  rcases List.mem_append.mp hx with hx | hx
  rcases List.mem_append.mp hx with hx | hx
  rcases List.mem_append.mp hx with hx | hx
  · exact mp ak.2.2.2.2.1 hx
  · exact mp ak.2.2.2.2.2.1 hx
  · obtain ⟨l, hl, hx⟩ := List.mem_flatMap.mp hx
    rcases List.mem_append.mp hx with hx | hx
    rcases List.mem_append.mp hx with hx | hx
    rcases List.mem_append.mp hx with hx | hx
    · exact mp ak.2.2.2.2.2.2.2.1 hx
    · exact mp ak.2.2.2.2.2.2.2.2.1 hx
    · exact mp ak.2.2.2.2.2.2.2.2.2.1 hx
    · exact mp ak.2.2.2.2.2.2.2.2.2.2.1 hx
  · exact mp ak.2.2.2.2.2.2.1 hx
theorem asc_win {W : Win} : Asc (Txt.join "\n" (winL W)) := asc_join fun x hx => by
  have ak := asc_kind
  rcases List.mem_cons.mp hx with rfl | hx
  · exact asc_ln ak.1
  rcases List.mem_cons.mp hx with rfl | hx
  · exact asc_ln ak.2.1
  · obtain ⟨e, _, rfl⟩ := List.mem_map.mp hx
    exact asc_ln (asc_app (asc_ln ak.2.2.1) ak.2.2.2.2.2.2.2.2.2.2.2.2.2.1)
theorem asc_voc {V : Voc} (h : VocOk V) : Asc (Txt.join "\n" (vocL V)) := asc_join fun x hx => by
  have ak := asc_kind
  rcases List.mem_cons.mp hx with rfl | hx
  · exact asc_app ak.2.2.2.2.2.2.2.2.2.2.2.2.1 (fun c hc => by have := h.ls.small c hc; omega)
  · obtain ⟨l, _, rfl⟩ := List.mem_map.mp hx
    exact asc_ln ak.2.2.2.2.2.2.2.2.2.2.2.1
theorem rep_pair {d : D} (h : ShD 20 3000000 d) : ∃ x, fRepr [.tup [d, d]] = some (.str x) :=
  rep_tup ((ShD.tup (n := 20) (m := 3000000) (k := 2) (fun x hx => by
    simp only [List.mem_cons, List.not_mem_nil, or_false] at hx
    rcases hx with rfl | rfl <;> exact h) (by simp)).mono (by omega) (by omega))
end Wk
end
section
set_option Elab.async false
set_option linter.all false
set_option maxRecDepth 100000
set_option maxHeartbeats 800000
/-! P31: a turn of the law. Own work. -/
namespace Wk
open PySem J
/-- what the law asks of a drawn model -/
structure MdF (d : D) (many : Nat) (t : Str) : Prop where
  lt : ∀ S, m__law_model_text [d] S = some (.str t, S)
  pt : ∀ S, m_model_text [d] S = some (.str t, S)
  rd : ∀ S, m_read_model [.str t] S = some (d, S)
  rp : ∃ x, fRepr [.tup [d, d]] = some (.str x)
  rt : ∃ x, fRepr [.tup [.str t, .str t]] = some (.str x)
  rs : ∃ x, fRepr [.str t] = some (.str x)
  wt : ∀ ts, TokOk many ts → ts ≠ [] → ts.length ≤ 900 → ∃ (w : List Int) (e : Sto → D) (x : Str), (∀ S, m_model_weights [d, dI ts] S = some (dI w, S)) ∧ (∀ S, m__law_seen [d, dI ts] S = some (.tup [e S, dI w], S)) ∧ fRepr [dI w] = some (.str x)
theorem rep_ints {l : List Int} (h : ∀ i ∈ l, Num i) (hk : l.length ≤ 100) : ∃ x, fRepr [dI l] = some (.str x) :=
  rep_tup ((ShD.ints (k := 100) h hk).mono (by omega) (by omega))
theorem md_net {N : Net} (h : NetOk N) : MdF (dNet N) N.many (Txt.join "\n" (netL N)) := by
  have hl := (netL_ok h).len (netL_len h)
  have ha := asc_net h
  refine ⟨fun S => m_ltext_net h, fun S => m_text_net h, fun S => m_read_net h, rep_pair (h := (ShD.net h).mono (by omega) (by omega)), rep_pair (h := (ShD.str ha hl).mono (by omega) (by omega)), rep_str ha hl (by omega), fun ts ht h0 hz => ?_⟩
  rcases List.eq_nil_or_concat ts with rfl | ⟨l, t, rfl⟩
  · exact absurd rfl h0
  rw [List.concat_eq_append] at *
  have hz' : l.length ≤ 900 := by simp at hz; omega
  have hex : ∀ S, ∃ d, m__law_seen [dNet N, dI (l ++ [t])] S = some (.tup [d, dI (netW N l t)], S) := fun S => m_lseen_net h ht hz'
  have hn : ∀ i ∈ netW N l t, Num i := fun i hi => by
    have := shares_pos _ i hi
    exact Num.small (by omega)
  have hln : (netW N l t).length ≤ 100 := by
    have := h.oul
    have := h.many
    simp [netW, outN, shares]; omega
  obtain ⟨x, hx⟩ := rep_ints hn hln
  exact ⟨netW N l t, fun S => (hex S).choose, x, fun S => m_weights_net h ht hz', fun S => (hex S).choose_spec, hx⟩
theorem winW_ok {W : Win} (h : WinOk W) (ts : List Int) : WtOk W.many (winW W ts) := by
  unfold winW
  cases hf : W.es.find? fun e => decide (e.1 = ts.drop (ts.length - W.k)) with
  | none => exact h.df
  | some e => exact h.ws e (List.mem_of_find?_eq_some hf)
theorem md_win {W : Win} (h : WinOk W) : MdF (dWin W) W.many (Txt.join "\n" (winL W)) := by
  have hm := h.many
  have hl := (winL_ok h).len (by have := h.few; simp [winL]; omega)
  have ha := asc_win (W := W)
  refine ⟨fun S => m_ltext_win h, fun S => m_text_win h, fun S => m_read_win h, rep_pair (h := (ShD.win h).mono (by omega) (by omega)), rep_pair (h := (ShD.str ha hl).mono (by omega) (by omega)), rep_str ha hl (by omega), fun ts ht h0 hz => ?_⟩
  have hw := winW_ok h ts
  obtain ⟨x, hx⟩ := rep_ints (l := winW W ts) (hw.s3 hm.2).num (by have := hw.1; omega)
  have hex : ∀ S, ∃ d, m__law_seen [dWin W, dI ts] S = some (.tup [d, dI (winW W ts)], S) := fun S => m_lseen_win h hz
  exact ⟨winW W ts, fun S => (hex S).choose, x, fun S => m_weights_win h ht h0, fun S => (hex S).choose_spec, hx⟩
/-- .. of a drawn vocabulary -/
structure VcF (d : D) (t : Str) : Prop where
  lt : ∀ S, m__law_vocabulary_text [d] S = some (.str t, S)
  pt : ∀ S, m_vocabulary_text [d] S = some (.str t, S)
  rd : ∀ S, m_read_vocabulary [.str t] S = some (d, S)
  rp : ∃ x, fRepr [.tup [d, d]] = some (.str x)
  rt : ∃ x, fRepr [.tup [.str t, .str t]] = some (.str x)
  rs : ∃ x, fRepr [.str t] = some (.str x)
theorem vc_voc {V : Voc} (h : VocOk V) : VcF (dVoc V) (Txt.join "\n" (vocL V)) := by
  have hl := (vocL_ok h).len (by have := h.few; simp [vocL]; omega)
  have ha := asc_voc h
  exact ⟨fun S => m_lvtext_eq h, fun S => m_vtext_eq h, fun S => m_read_voc h, rep_pair (h := (ShD.voc h).mono (by omega) (by omega)), rep_pair (h := (ShD.str ha hl).mono (by omega) (by omega)), rep_str ha hl (by omega)⟩
theorem wp_net {r S : Sto} {many : Nat} (h : Dk r S) (hm : 2 ≤ many ∧ many ≤ 6) : Wp (m__law_net [.ob 1, .int (many : Nat), .int 2] S) fun v S' => ∃ N, v = dNet N ∧ NetOk N ∧ N.many = many ∧ Dk r S' := by
  obtain ⟨l, m, k, rfl, hl⟩ := h
  obtain ⟨N, l', k', e, a, b, c⟩ := m_net_eq (l := l) (m := m) (k := k) (r := r) hl hm
  exact ⟨_, _, e, N, rfl, a, b, l', m, k', rfl, by omega⟩
end Wk
end
section
set_option Elab.async false
set_option linter.all false
set_option maxRecDepth 100000
set_option maxHeartbeats 800000
/-! P32: a turn of the law. Own work. -/
namespace Wk
open PySem J
def la1 : SM := (sSet 3 (e2 dAdd (eC (.int 2)) (eF m__law_draw (aCons (eVar 1) (aCons (eC (.int 5)) (aNil))))))
def la2 : SM := (sSet 4 (eIf (tB (e2S dEq (eVar 2) (eC (.int 0)))) (eF m__law_net (aCons (eVar 1) (aCons (eVar 3) (aCons (eC (.int 2)) (aNil))))) (eF m__law_window (aCons (eVar 1) (aCons (eVar 3) (aNil))))))
def la3 : SM := (sIf (tAnd (tB (e2S dEq (eVar 2) (eC (.int 0)))) (tB (e2S dEq (eF m__law_draw (aCons (eVar 1) (aCons (eC (.int 3)) (aNil)))) (eC (.int 0))))) (sSet 4 (e2 dAdd (e2 dAdd (e3 dSlice (eVar 4) (oNone) (oSome (eC (.int 5)))) (eTup (aCons (eTup (aNil)) (aNil)))) (e3 dSlice (eVar 4) (oSome (eC (.int 6))) (oNone)))) (sNop))
def la4 : SM := (sSet 5 (eF m__law_model_text (aCons (eVar 4) (aNil))))
def la5 : SM := (sIf (tB (e2S dNe (eN fRepr (aCons (eTup (aCons (eF m_model_text (aCons (eVar 4) (aNil))) (aCons (eF m_model_text (aCons (eVar 4) (aNil))) (aNil)))) (aNil))) (eN fRepr (aCons (eTup (aCons (eVar 5) (aCons (eVar 5) (aNil)))) (aNil))))) (sRet (eC (.bl false))) (sNop))
def la6 : SM := (sSet 6 (eF m_read_model (aCons (eVar 5) (aNil))))
def la7 : SM := (sIf (tOr (tB (e2S dNe (eN fRepr (aCons (eTup (aCons (eVar 6) (aCons (eF m_read_model (aCons (eVar 5) (aNil))) (aNil)))) (aNil))) (eN fRepr (aCons (eTup (aCons (eVar 4) (aCons (eVar 4) (aNil)))) (aNil))))) (tB (e2S dNe (eN fRepr (aCons (eF m_model_text (aCons (eVar 6) (aNil))) (aNil))) (eN fRepr (aCons (eVar 5) (aNil)))))) (sRet (eC (.bl false))) (sNop))
def la8 : SM := (sSet 7 (eN fTuple (aCons (eL (fLc (iRange (aCons (e2 dAdd (eC (.int 1)) (eF m__law_draw (aCons (eVar 1) (aCons (eC (.int 6)) (aNil))))) (aNil))) [8] (.nm 8) (tT) (eF m__law_draw (aCons (eVar 1) (aCons (eVar 3) (aNil)))))) (aNil))))
def la9 : SM := (sIf (tB (e2S dNe (eN fRepr (aCons (eF m_model_weights (aCons (eVar 6) (aCons (eVar 7) (aNil)))) (aNil))) (eN fRepr (aCons (e2S dIx (eF m__law_seen (aCons (eVar 4) (aCons (eVar 7) (aNil)))) (eC (.int 1))) (aNil))))) (sRet (eC (.bl false))) (sNop))
def la10 : SM := (sSet 9 (eF m__law_vocabulary (aCons (eVar 1) (aCons (eVar 3) (aNil)))))
def la11 : SM := (sSet 5 (eF m__law_vocabulary_text (aCons (eVar 9) (aNil))))
def la12 : SM := (sIf (tB (e2S dNe (eN fRepr (aCons (eTup (aCons (eF m_vocabulary_text (aCons (eVar 9) (aNil))) (aCons (eF m_vocabulary_text (aCons (eVar 9) (aNil))) (aNil)))) (aNil))) (eN fRepr (aCons (eTup (aCons (eVar 5) (aCons (eVar 5) (aNil)))) (aNil))))) (sRet (eC (.bl false))) (sNop))
def la13 : SM := (sSet 6 (eF m_read_vocabulary (aCons (eVar 5) (aNil))))
def la14 : SM := (sIf (tOr (tB (e2S dNe (eN fRepr (aCons (eTup (aCons (eVar 6) (aCons (eF m_read_vocabulary (aCons (eVar 5) (aNil))) (aNil)))) (aNil))) (eN fRepr (aCons (eTup (aCons (eVar 9) (aCons (eVar 9) (aNil)))) (aNil))))) (tB (e2S dNe (eN fRepr (aCons (eF m_vocabulary_text (aCons (eVar 6) (aNil))) (aNil))) (eN fRepr (aCons (eVar 5) (aNil)))))) (sRet (eC (.bl false))) (sNop))
def lawB : SM := (sSeq la1 (sSeq la2 (sSeq la3 (sSeq la4 (sSeq la5 (sSeq la6 (sSeq la7 (sSeq la8 (sSeq la9 (sSeq la10 (sSeq la11 (sSeq la12 (sSeq la13 la14)))))))))))))

abbrev lE (v0 : D) (t : Int) (o3 o4 o5 o6 o7 o9 : Option LV) : LEnv := [some (.val v0), some (.val (.ob 1)), some (.val (.int t)), o3, o4, o5, o6, o7, none, o9]
abbrev lv (d : D) : Option LV := some (.val d)
theorem la1_wp {r S : Sto} {v0 : D} {t : Int} {o3 o4 o5 o6 o7 o9 : Option LV} (h : Dk r S) : ∃ (many : Nat) (S' : Sto), la1 (lE v0 t o3 o4 o5 o6 o7 o9) S = some ((.nx, lE v0 t (lv (.int (many : Nat))) o4 o5 o6 o7 o9), S') ∧ (2 ≤ many ∧ many ≤ 6) ∧ Dk r S' := by
  obtain ⟨v, S1, e1, x, rfl, a, b, h1⟩ := wp_draw (many := 5) h (by decide) (by decide)
  obtain ⟨n, rfl⟩ := Int.eq_ofNat_of_zero_le a
  refine ⟨2 + n, S1, ?_, by omega, h1⟩
  unfold la1
  rw [sSet_ev, J.e2_ev, eC_ev]
  simp only [Option.bind_some, eF_ev, aCons_ev, aNil_ev, eC_ev, eVar_ev, vis_cons, vis_nil, LV.v_val, List.getElem?_cons_zero, List.getElem?_cons_succ, e1, dAdd_int]
  rw [show (2 : Int) + (n : Int) = ((2 + n : Nat) : Int) by omega]
  rfl
theorem la2_0 {r S : Sto} {v0 : D} {many : Nat} {o4 o5 o6 o7 o9 : Option LV} (h : Dk r S) (hm : 2 ≤ many ∧ many ≤ 6) : ∃ N S', la2 (lE v0 0 (lv (.int (many : Nat))) o4 o5 o6 o7 o9) S = some ((.nx, lE v0 0 (lv (.int (many : Nat))) (lv (dNet N)) o5 o6 o7 o9), S') ∧ NetOk N ∧ N.many = many ∧ Dk r S' := by
  obtain ⟨v, S1, e1, N, rfl, a, b, h1⟩ := wp_net h hm
  refine ⟨N, S1, ?_, a, b, h1⟩
  generalize dNet N = d at *
  unfold la2
  rw [sSet_ev, eIf_ev]
  simp only [tB_ev, e2S_ev, Option.bind_some, eF_ev, aCons_ev, aNil_ev, eC_ev, eVar_ev, vis_cons, vis_nil, LV.v_val, List.getElem?_cons_zero, List.getElem?_cons_succ, dEq_int, decide_true, if_true, e1]
  rfl
theorem la2_1 {r S : Sto} {v0 : D} {t : Int} {many : Nat} {o4 o5 o6 o7 o9 : Option LV} (ht : t ≠ 0) (h : Dk r S) (hm : 2 ≤ many ∧ many ≤ 6) : ∃ W r' S', la2 (lE v0 t (lv (.int (many : Nat))) o4 o5 o6 o7 o9) S = some ((.nx, lE v0 t (lv (.int (many : Nat))) (lv (dWin W)) o5 o6 o7 o9), S') ∧ WinOk W ∧ W.many = many ∧ Dk r' S' := by
  obtain ⟨v, S1, e1, W, r', rfl, a, b, h1⟩ := wp_window h hm
  refine ⟨W, r', S1, ?_, a, b, h1⟩
  generalize dWin W = d at *
  unfold la2
  rw [sSet_ev, eIf_ev]
  simp only [tB_ev, e2S_ev, Option.bind_some, eF_ev, aCons_ev, aNil_ev, eC_ev, eVar_ev, vis_cons, vis_nil, LV.v_val, List.getElem?_cons_zero, List.getElem?_cons_succ, dEq_int, decide_eq_false ht, Bool.false_eq_true, if_false, e1]
  rfl
theorem la3_1 {S : Sto} {v0 : D} {t : Int} {o3 o4 o5 o6 o7 o9 : Option LV} (ht : t ≠ 0) : la3 (lE v0 t o3 o4 o5 o6 o7 o9) S = some ((.nx, lE v0 t o3 o4 o5 o6 o7 o9), S) := by
  unfold la3
  refine sIf_f (S1 := S) ?_ rfl
  rw [tAnd_ev]
  simp only [tB_ev, e2S_ev, Option.bind_some, eC_ev, eVar_ev, vis_cons, vis_nil, LV.v_val, List.getElem?_cons_zero, List.getElem?_cons_succ, dEq_int, decide_eq_false ht, Bool.false_eq_true, if_false]
theorem la3_0 {r S : Sto} {v0 : D} {N : Net} {o3 o5 o6 o7 o9 : Option LV} (h : Dk r S) (hN : NetOk N) : ∃ N' S', la3 (lE v0 0 o3 (lv (dNet N)) o5 o6 o7 o9) S = some ((.nx, lE v0 0 o3 (lv (dNet N')) o5 o6 o7 o9), S') ∧ NetOk N' ∧ N'.many = N.many ∧ Dk r S' := by
  obtain ⟨v, S1, e1, x, rfl, a, b, h1⟩ := wp_draw (many := 3) h (by decide) (by decide)
  have ht : (tAnd (tB (e2S dEq (eVar 2) (eC (.int 0)))) (tB (e2S dEq (eF m__law_draw (aCons (eVar 1) (aCons (eC (.int 3)) (aNil)))) (eC (.int 0))))) (vis (lE v0 0 o3 (lv (dNet N)) o5 o6 o7 o9)) S = some (decide (x = 0), S1) := by
    rw [tAnd_ev]
    simp only [tB_ev, e2S_ev, Option.bind_some, eF_ev, aCons_ev, aNil_ev, eC_ev, eVar_ev, vis_cons, vis_nil, LV.v_val, List.getElem?_cons_zero, List.getElem?_cons_succ, dEq_int, decide_true, if_true, e1]
  by_cases hx : x = 0
  · rw [decide_eq_true hx] at ht
    refine ⟨⟨N.many, N.d, N.em, N.pl, [], N.ou⟩, S1, ?_, ⟨hN.many, hN.d, .inr trivial, hN.emr, hN.eml, hN.plr, hN.pl0, fun l hl => absurd hl List.not_mem_nil, by simp, hN.our, hN.oul⟩, rfl, h1⟩
    have c1 : cutL [D.str "net", .int (N.many : Nat), .int (N.d : Nat), dII N.em, dII N.pl, .tup (N.ls.map dLay), dII N.ou] none (some 5) = [D.str "net", .int (N.many : Nat), .int (N.d : Nat), dII N.em, dII N.pl] := rfl
    have c2 : cutL [D.str "net", .int (N.many : Nat), .int (N.d : Nat), dII N.em, dII N.pl, .tup (N.ls.map dLay), dII N.ou] (some 6) none = [dII N.ou] := rfl
    have z6 : 5 + 1 ≤ sizeLine := sz_line (by omega)
    have z7 : 6 + 1 ≤ sizeLine := sz_line (by omega)
    unfold la3
    refine sIf_t ht ?_
    unfold dNet
    generalize dII N.em = em at *
    generalize dII N.pl = pl at *
    generalize dII N.ou = ou at *
    generalize N.ls.map dLay = ls at *
    simp [vis_cons, c1, c2, z6, z7]
  · rw [decide_eq_false hx] at ht
    refine ⟨N, S1, ?_, hN, rfl, h1⟩
    unfold la3
    exact sIf_f ht rfl
/-- what stands in front of the texts -/
theorem la123 {r S : Sto} {v0 : D} {t : Int} {o3 o4 o5 o6 o7 o9 : Option LV} (h : Dk r S) (m : SM) : ∃ (many : Nat) (d : D) (tx : Str) (r' S' : Sto), (sSeq la1 (sSeq la2 (sSeq la3 m))) (lE v0 t o3 o4 o5 o6 o7 o9) S = m (lE v0 t (lv (.int (many : Nat))) (lv d) o5 o6 o7 o9) S' ∧ (2 ≤ many ∧ many ≤ 6) ∧ MdF d many tx ∧ Dk r' S' := by
  obtain ⟨many, S1, e1, hm, h1⟩ := la1_wp (v0 := v0) (t := t) (o3 := o3) (o4 := o4) (o5 := o5) (o6 := o6) (o7 := o7) (o9 := o9) h
  rw [sSeq_nx e1]
  by_cases ht : t = 0
  · subst ht
    obtain ⟨N, S2, e2, hN, hNm, h2⟩ := la2_0 (v0 := v0) (o4 := o4) (o5 := o5) (o6 := o6) (o7 := o7) (o9 := o9) h1 hm
    obtain ⟨N', S3, e3, hN', hNm', h3⟩ := la3_0 (v0 := v0) (o3 := lv (.int (many : Nat))) (o5 := o5) (o6 := o6) (o7 := o7) (o9 := o9) h2 hN
    refine ⟨many, dNet N', _, r, S3, ?_, hm, by have := md_net hN'; rw [hNm', hNm] at this; exact this, h3⟩
    rw [sSeq_nx e2, sSeq_nx e3]
  · obtain ⟨W, r', S2, e2, hW, hWm, h2⟩ := la2_1 (v0 := v0) (o4 := o4) (o5 := o5) (o6 := o6) (o7 := o7) (o9 := o9) ht h1 hm
    refine ⟨many, dWin W, _, r', S2, ?_, hm, by have := md_win hW; rw [hWm] at this; exact this, h2⟩
    rw [sSeq_nx e2, sSeq_nx (la3_1 ht)]
theorem ne_self {S : Sto} (x : Str) : dNe S (.str x) (.str x) = some (.bl false) := by simp
theorem la4_eq {S : Sto} {v0 d : D} {t : Int} {many : Nat} {tx : Str} {o3 o5 o6 o7 o9 : Option LV} (h : MdF d many tx) : la4 (lE v0 t o3 (lv d) o5 o6 o7 o9) S = some ((.nx, lE v0 t o3 (lv d) (lv (.str tx)) o6 o7 o9), S) := by
  have e := h.lt S
  simp [la4, vis_cons, e]
theorem la5_eq {S : Sto} {v0 d : D} {t : Int} {many : Nat} {tx : Str} {o3 o6 o7 o9 : Option LV} (h : MdF d many tx) : la5 (lE v0 t o3 (lv d) (lv (.str tx)) o6 o7 o9) S = some ((.nx, lE v0 t o3 (lv d) (lv (.str tx)) o6 o7 o9), S) := by
  have e := h.pt S
  obtain ⟨x, hx⟩ := h.rt
  simp [la5, vis_cons, e, hx]
theorem la6_eq {S : Sto} {v0 d : D} {t : Int} {many : Nat} {tx : Str} {o3 o6 o7 o9 : Option LV} (h : MdF d many tx) : la6 (lE v0 t o3 (lv d) (lv (.str tx)) o6 o7 o9) S = some ((.nx, lE v0 t o3 (lv d) (lv (.str tx)) (lv d) o7 o9), S) := by
  have e := h.rd S
  simp [la6, vis_cons, e]
theorem la7_eq {S : Sto} {v0 d : D} {t : Int} {many : Nat} {tx : Str} {o3 o7 o9 : Option LV} (h : MdF d many tx) : la7 (lE v0 t o3 (lv d) (lv (.str tx)) (lv d) o7 o9) S = some ((.nx, lE v0 t o3 (lv d) (lv (.str tx)) (lv d) o7 o9), S) := by
  have e := h.pt S
  have e2 := h.rd S
  obtain ⟨x, hx⟩ := h.rs
  obtain ⟨y, hy⟩ := h.rp
  simp [la7, vis_cons, e, e2, hx, hy]
theorem la8_wp {r S : Sto} {v0 : D} {t : Int} {many : Nat} {o4 o5 o6 o7 o9 : Option LV} (h : Dk r S) (hm : 2 ≤ many ∧ many ≤ 6) : ∃ ts S', la8 (lE v0 t (lv (.int (many : Nat))) o4 o5 o6 o7 o9) S = some ((.nx, lE v0 t (lv (.int (many : Nat))) o4 o5 o6 (lv (dI ts)) o9), S') ∧ TokOk many ts ∧ ts ≠ [] ∧ ts.length ≤ 900 ∧ Dk r S' := by
  obtain ⟨v, S1, e1, x, rfl, a, b, h1⟩ := wp_draw (many := 6) h (by decide) (by decide)
  obtain ⟨n, rfl⟩ := Int.eq_ofNat_of_zero_le a
  have ec : (1 : Int) + (n : Nat) = ((1 + n : Nat) : Int) := by omega
  have rg := rgD_nat (n := 1 + n) (by omega)
  obtain ⟨zs, S2, e2, hn2, q, h2⟩ := wp_lc (r := r) (f := lcEl [8] (.nm 8) tT (eF m__law_draw (aCons (eVar 1) (aCons (eVar 3) (aNil)))) (vis (lE v0 t (lv (.int (many : Nat))) o4 o5 o6 o7 o9))) (fun z => ∃ i, z = .int i ∧ (0 ≤ i ∧ i < (many : Nat))) ((List.range (1 + n)).map fun i => .int (i : Nat)) S1 h1 (fun d _ S hS => by
    obtain ⟨w, S3, e3, x, rfl, a, b, h3⟩ := wp_draw (many := (many : Nat)) hS (by omega) (by omega)
    refine ⟨some (.int x), S3, ?_, _, rfl, ⟨x, rfl, a, b⟩, h3⟩
    rw [lcEl_tT]
    simp only [vis_cons, vis_nil, Option.bind_some, Option.bind_none, LV.v_val, wipeE_cons, wipeE_nil, List.set_cons_succ, List.set_cons_zero, asgT_nm, List.length_cons, List.length_nil, Nat.reduceAdd, Nat.reduceLT, if_true, eF_ev, aCons_ev, aNil_ev, eVar_ev, List.getElem?_cons_zero, List.getElem?_cons_succ, id_eq, e3])
  obtain ⟨l, rfl, hl⟩ := ints_of (P := fun i => 0 ≤ i ∧ i < (many : Nat)) q
  have hll : l.length = 1 + n := by simpa using hn2
  refine ⟨l, S2, ?_, hl, fun z => by rw [z] at hll; simp at hll; omega, by omega, h2⟩
  unfold la8
  rw [sSet_ev, eN_ev, aCons_ev, eL_ev, fLc_ev]
  have ei : (iRange (aCons (J.e2 dAdd (eC (.int 1)) (eF m__law_draw (aCons (eVar 1) (aCons (eC (.int 6)) (aNil))))) (aNil))) (vis (lE v0 t (lv (.int (many : Nat))) o4 o5 o6 o7 o9)) S = some ((List.range (1 + n)).map fun i => .int (i : Nat), S1) := by
    simp only [iRange_ev, J.e2_ev, Option.bind_some, eF_ev, aCons_ev, aNil_ev, eC_ev, eVar_ev, vis_cons, vis_nil, LV.v_val, List.getElem?_cons_zero, List.getElem?_cons_succ, e1, dAdd_int]
    rw [ec, rg]
    rfl
  rw [ei]
  simp only [Option.bind_some]
  rw [e2]
  rfl
theorem la9_eq {S : Sto} {v0 d : D} {t : Int} {many : Nat} {tx : Str} {ts : List Int} {o3 o5 o9 : Option LV} (h : MdF d many tx) (h1 : TokOk many ts) (h2 : ts ≠ []) (h3 : ts.length ≤ 900) : la9 (lE v0 t o3 (lv d) o5 (lv d) (lv (dI ts)) o9) S = some ((.nx, lE v0 t o3 (lv d) o5 (lv d) (lv (dI ts)) o9), S) := by
  obtain ⟨w, e, x, a, b, c⟩ := h.wt ts h1 h2 h3
  have a' := a S
  have b' := b S
  generalize dI ts = dt at *
  generalize dI w = dw at *
  simp [la9, vis_cons, a', b', c]
theorem la10_wp {r S : Sto} {v0 : D} {t : Int} {many : Nat} {o4 o5 o6 o7 o9 : Option LV} (h : Dk r S) (hm : 2 ≤ many ∧ many ≤ 6) : ∃ d tx S', la10 (lE v0 t (lv (.int (many : Nat))) o4 o5 o6 o7 o9) S = some ((.nx, lE v0 t (lv (.int (many : Nat))) o4 o5 o6 o7 (lv d)), S') ∧ VcF d tx ∧ Dk r S' := by
  obtain ⟨v, S1, e1, V, rfl, hV, h1⟩ := wp_voc h hm
  refine ⟨dVoc V, _, S1, ?_, vc_voc hV, h1⟩
  generalize dVoc V = d at *
  simp [la10, vis_cons, e1]
theorem la11_eq {S : Sto} {v0 d : D} {t : Int} {tx : Str} {o3 o4 o5 o6 o7 : Option LV} (h : VcF d tx) : la11 (lE v0 t o3 o4 o5 o6 o7 (lv d)) S = some ((.nx, lE v0 t o3 o4 (lv (.str tx)) o6 o7 (lv d)), S) := by
  have e := h.lt S
  simp [la11, vis_cons, e]
theorem la12_eq {S : Sto} {v0 d : D} {t : Int} {tx : Str} {o3 o4 o6 o7 : Option LV} (h : VcF d tx) : la12 (lE v0 t o3 o4 (lv (.str tx)) o6 o7 (lv d)) S = some ((.nx, lE v0 t o3 o4 (lv (.str tx)) o6 o7 (lv d)), S) := by
  have e := h.pt S
  obtain ⟨x, hx⟩ := h.rt
  simp [la12, vis_cons, e, hx]
theorem la13_eq {S : Sto} {v0 d : D} {t : Int} {tx : Str} {o3 o4 o6 o7 : Option LV} (h : VcF d tx) : la13 (lE v0 t o3 o4 (lv (.str tx)) o6 o7 (lv d)) S = some ((.nx, lE v0 t o3 o4 (lv (.str tx)) (lv d) o7 (lv d)), S) := by
  have e := h.rd S
  simp [la13, vis_cons, e]
theorem la14_eq {S : Sto} {v0 d : D} {t : Int} {tx : Str} {o3 o4 o7 : Option LV} (h : VcF d tx) : la14 (lE v0 t o3 o4 (lv (.str tx)) (lv d) o7 (lv d)) S = some ((.nx, lE v0 t o3 o4 (lv (.str tx)) (lv d) o7 (lv d)), S) := by
  have e := h.pt S
  have e2 := h.rd S
  obtain ⟨x, hx⟩ := h.rs
  obtain ⟨y, hy⟩ := h.rp
  simp [la14, vis_cons, e, e2, hx, hy]
theorem law_turn {r S : Sto} {v0 : D} {t : Int} {o3 o4 o5 o6 o7 o9 : Option LV} (h : Dk r S) : ∃ o3' o4' o5' o6' o7' o9' r' S', lawB (lE v0 t o3 o4 o5 o6 o7 o9) S = some ((.nx, lE v0 t o3' o4' o5' o6' o7' o9'), S') ∧ Dk r' S' := by
  obtain ⟨many, d, tx, r1, S1, e1, hm, hd, h1⟩ := la123 (v0 := v0) (t := t) (o3 := o3) (o4 := o4) (o5 := o5) (o6 := o6) (o7 := o7) (o9 := o9) h (sSeq la4 (sSeq la5 (sSeq la6 (sSeq la7 (sSeq la8 (sSeq la9 (sSeq la10 (sSeq la11 (sSeq la12 (sSeq la13 la14))))))))))
  obtain ⟨ts, S2, e8, ht, ht0, htz, h2⟩ := la8_wp (v0 := v0) (t := t) (o4 := lv d) (o5 := lv (.str tx)) (o6 := lv d) (o7 := o7) (o9 := o9) h1 hm
  obtain ⟨dv, tv, S3, e10, hv, h3⟩ := la10_wp (v0 := v0) (t := t) (o4 := lv d) (o5 := lv (.str tx)) (o6 := lv d) (o7 := lv (dI ts)) (o9 := o9) h2 hm
  refine ⟨lv (.int (many : Nat)), lv d, lv (.str tv), lv dv, lv (dI ts), lv dv, r1, S3, ?_, h3⟩
  unfold lawB
  rw [e1, sSeq_nx (la4_eq hd), sSeq_nx (la5_eq hd), sSeq_nx (la6_eq hd), sSeq_nx (la7_eq hd), sSeq_nx e8, sSeq_nx (la9_eq hd ht ht0 htz), sSeq_nx e10, sSeq_nx (la11_eq hv), sSeq_nx (la12_eq hv), sSeq_nx (la13_eq hv), la14_eq hv]
theorem law_turns {v0 : D} : ∀ (xs : List Int) (r S : Sto) (o2 o3 o4 o5 o6 o7 o9 : Option LV), Dk r S → ∃ o2' o3' o4' o5' o6' o7' o9' S', sForGo (.nm 2) lawB (xs.map D.int) [some (.val v0), some (.val (.ob 1)), o2, o3, o4, o5, o6, o7, none, o9] S = some ((.nx, [some (.val v0), some (.val (.ob 1)), o2', o3', o4', o5', o6', o7', none, o9']), S')
  | [], r, S, o2, o3, o4, o5, o6, o7, o9, h => ⟨o2, o3, o4, o5, o6, o7, o9, S, rfl⟩
  | t :: xs, r, S, o2, o3, o4, o5, o6, o7, o9, h => by
    obtain ⟨a3, a4, a5, a6, a7, a9, r1, S1, e1, h1⟩ := law_turn (v0 := v0) (t := t) (o3 := o3) (o4 := o4) (o5 := o5) (o6 := o6) (o7 := o7) (o9 := o9) h
    obtain ⟨b2, b3, b4, b5, b6, b7, b9, S2, e2⟩ := law_turns (v0 := v0) xs r1 S1 (lv (.int t)) a3 a4 a5 a6 a7 a9 h1
    refine ⟨b2, b3, b4, b5, b6, b7, b9, S2, ?_⟩
    rw [List.map_cons]
    unfold sForGo
    generalize lawB = bd at *
    simp [e1]
    exact e2
theorem law_true (ns : List Int) (hz : ns.length ≤ 63) : ∃ S', m_law [.cl (ns.map D.int)] [] = some (.bl true, S') := by
  obtain ⟨m, e0⟩ := m_deck_eq ns hz
  have h0 : Dk [] (deckS ns.reverse m 0 []) := ⟨_, _, _, rfl, by simp; omega⟩
  obtain ⟨b2, b3, b4, b5, b6, b7, b9, S2, e2⟩ := law_turns (v0 := .cl (ns.map D.int)) [0, 1, 2, 3] [] _ none none none none none none none h0
  have r4 : rgD [.int 4] = some ([0, 1, 2, 3].map D.int) := by
    rw [show (4 : Int) = ((4 : Nat) : Int) from rfl, rgD_nat (by decide)]; rfl
  refine ⟨S2, run_ret (o := kill [some (.val (.cl (ns.map D.int))), some (.val (.ob 1)), b2, b3, b4, b5, b6, b7, none, b9]) rfl ?_⟩
  show (sSeq (sSet 1 _) (sSeq (sFor _ _ lawB) _)) [some (.val (.cl (ns.map D.int))), none, none, none, none, none, none, none, none, none] [] = _
  rw [sSeq_nx (m1 := sSet 1 _) (ρ' := [some (.val (.cl (ns.map D.int))), some (.val (.ob 1)), none, none, none, none, none, none, none, none]) (S' := deckS ns.reverse m 0 []) (by
    rw [sSet_ev]
    simp only [eF_ev, aCons_ev, aNil_ev, eVar_ev, vis_val, vis_none, vis_nil, List.getElem?_cons_zero, Option.bind_some, e0]
    rfl)]
  rw [sSeq_nx (m1 := sFor _ _ _) (S' := S2) (by
    rw [sFor_ev]
    simp only [iRange_ev, aCons_ev, aNil_ev, eC_ev, Option.bind_some]
    rw [r4]
    simp only [Option.bind_some]
    exact e2)]
  simp
end Wk
end

open PySem PySem.W PyProof.Rows
set_option Elab.async false
set_option maxRecDepth 100000 in
set_option maxHeartbeats 8000000 in
theorem PySem.Challenge.cw_draftward_k79_whole_texts_there_and_back_holds : PySem.Challenge.rw_draftward_k79_whole_texts_there_and_back.Holds := by
  exact holds_of Wk.law_true
