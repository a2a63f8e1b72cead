import PyProof.Rows.All
import Wide.All
import OpenK.AllK
import Wide.FinOn
import HandS.ForMost
import HandS.ForExc
import HandS.ExcCtx
import HandS.CallSlots
import HandS.TupAny
import HandS.Conv
import HandS.Zip
import HandS.Wide
import HandS.Walk
import HandS.WordsExc
import HandS.More
import HandS.Text
import HandS.FStr
import HandS.Deep
import KE.GoesEnum
import KE.GoesZip
import HandS.IsInst
import KE.KTupSum
import HandS.Strs
import KE.DataMinMax
import KE.SortData
import HandS.Dict
import HandS.Sort
import HandS.Style
import HandS.SetFor
import HandS.ExcInit
import HandS.TryMany
import HandS.TryOnly
import HandS.ExcField
import HandS.ExcIs
import HandS.HotCalls
import HandS.Comp
import KE.KExcIs
import HandS.Iter
import KE.KDictDisplayH
import HandS.Flow
import KE.KItemsList
import HandS.MapObj
import HandS.ListItems
import HandS.List
import HandS.OwnEq
import PyProof.NeKinds
import HandS.Replace
import KE.RegKIsAll
import HandS.MakeKwOnly
import HandS.FStrTup
import HandS.RaiseMore
import PySem.Challenge.RW_ringcoins_k18_refusals_made
set_option Elab.async false
set_option linter.all false
set_option maxRecDepth 100000
namespace DV
open PySem PySem.Spec L2
abbrev SV := L2.St
/-- data -/
inductive D where
  | non | bl (b : Bool) | int (i : Int) | str (x : Str) | tup (xs : List D) | lst (xs : List D) | scr (xs : List D) | obj (c : Str) (ks : List Str) (ds : List D) | ref (n : Nat) | exc (c : Str) (ks : List Str) (ds : List D)
structure MC where
  K : PySem.W.Frag
  mg : Str → Option Value
  P : Program
  w : World
/-- a tuple that is known to its last part: it has no dict -/
def TupK (K : PySem.W.Frag) (Z : Hp) (a : Addr) (vs : List V) : Prop := (∃ o : Obj, Z a = some (.frz o (.tup vs)) ∧ o.dict = none) ∨
  ∃ (o : Obj) (its : Array Value) (n : Nat), K.lookup a = some o ∧ o.cls = .type "tuple" ∧ o.dict = none ∧ o.data = .seq its n ∧ its.size ≤ sizeLine ∧ Vals vs its.toList
theorem TupK.seq {K : PySem.W.Frag} {Z : Hp} {a : Addr} {vs : List V} (h : TupK K Z a vs) : SqT K Z a vs := by
  rcases h with ⟨o, h, _⟩ | ⟨o, its, n, h1, h2, _, h3, h4, h5⟩
  · exact .inl (.inr ⟨o, h⟩)
  · exact .inr ⟨o, its, n, h1, h2, h3, h4, h5⟩
theorem TupK.mono {K : PySem.W.Frag} {Z Z' : Hp} {a : Addr} {vs : List V} (e : Same Z Z') (h : TupK K Z a vs) : TupK K Z' a vs := by
  rcases h with ⟨o, h, d⟩ | h
  · exact .inl ⟨o, e _ _ h, d⟩
  · exact .inr h
/-- the mark of a thing of the world, kept among what is frozen: its number -/
def tagO : HO → Bool
  | .own _ => true
  | _ => false
/-- what is frozen stands so; what is marked is there -/
structure Sub (Z H : Hp) : Prop where
  th : ∀ a u, Z a = some u → tagO u = false → H a = some u
  al : ∀ a, Z a ≠ none → H a ≠ none
abbrev NSub (Z H : Hp) : Prop := ∀ a u, Z a = some u → tagO u = false → H a = some u
theorem nsub {Z H : Hp} (e : Same Z H) : NSub Z H := fun a u h _ => e a u h
/-- a refusal of the class cls, its dict at d -/
def excO (a : Addr) (cls : Value) (d : Option Addr) : HO := .ext fun h => ∃ (oe : Obj) (vs : Array Value), h.get? a = some oe ∧ L2N.Zn cls d oe ∧ oe.data = .fields vs
mutual
inductive Rp (M : MC) (Z : Hp) : V → D → Prop
  | non : Rp M Z .non .non
  | bl (b : Bool) : Rp M Z (.bl b) (.bl b)
  | int (i : Int) : Rp M Z (.int i) (.int i)
  | str (x : Str) : Rp M Z (.str x) (.str x)
  | tup {a : Addr} {vs : List V} {ds : List D} : TupK M.K Z a vs → Rps M Z vs ds → Rp M Z (.ref a) (.tup ds)
  | lst {a : Addr} {vs : List V} {ds : List D} : Z a = some (.lst vs) → Rps M Z vs ds → Rp M Z (.ref a) (.lst ds)
  | scr {a : Addr} {vs : List V} {ds : List D} : SqL M.K Z a vs → Rps M Z vs ds → Rp M Z (.ref a) (.scr ds)
  | obj {a C dx : Addr} {c : Str} {ks : List Str} {vs : List V} {ds : List D} : Z a = some (.ins C dx (ks.zip vs)) → M.mg c = some (.ref C) → ks.length = vs.length → Rps M Z vs ds → Rp M Z (.ref a) (.obj c ks ds)
  | ref {a : Addr} {n : Nat} : Z a = some (.own n) → Rp M Z (.ref a) (.ref n)
  | exc {a C : Addr} {o : Option Addr} {c : Str} {ks : List Str} {vs : List V} {ds : List D} : Z a = some (excO a (.ref C) o) → M.mg c = some (.ref C) → ((o = none ∧ ks = []) ∨ ∃ dd, o = some dd ∧ Z dd = some (.xd (ks.zip vs))) → ks.length = vs.length → Rps M Z vs ds → Rp M Z (.ref a) (.exc c ks ds)
inductive Rps (M : MC) (Z : Hp) : List V → List D → Prop
  | nil : Rps M Z [] []
  | cons {v : V} {d : D} {vs : List V} {ds : List D} : Rp M Z v d → Rps M Z vs ds → Rps M Z (v :: vs) (d :: ds)
end
theorem seqT {K : PySem.W.Frag} {H H' : Hp} {a : Addr} {xs : List V} (e : NSub H H') (h : SqT K H a xs) : SqT K H' a xs := by
  rcases h with (h | ⟨o, h⟩) | h
  · exact .inl (.inl (e _ _ h rfl))
  · exact .inl (.inr ⟨o, e _ _ h rfl⟩)
  · exact .inr h
theorem seqL {K : PySem.W.Frag} {H H' : Hp} {a : Addr} {xs : List V} (e : NSub H H') (h : SqL K H a xs) : SqL K H' a xs := by
  rcases h with (h | ⟨o, h⟩) | h
  · exact .inl (.inl (e _ _ h rfl))
  · exact .inl (.inr ⟨o, e _ _ h rfl⟩)
  · exact .inr h
section
variable {M : MC} {Z Z' H H' : Hp} {v : V} {d : D} {vs ws : List V} {ds es : List D}
mutual
theorem Rp.mono (e : Same Z Z') : ∀ {v : V} {d : D}, Rp M Z v d → Rp M Z' v d
  | _, _, .non => .non
  | _, _, .bl b => .bl b
  | _, _, .int b => .int b
  | _, _, .str b => .str b
  | _, _, .tup h r => .tup (h.mono e) (Rps.mono e r)
  | _, _, .lst h r => .lst (e _ _ h) (Rps.mono e r)
  | _, _, .scr h r => .scr (seqL (nsub e) h) (Rps.mono e r)
  | _, _, .obj h m l r => .obj (e _ _ h) m l (Rps.mono e r)
  | _, _, .ref h => .ref (e _ _ h)
  | _, _, .exc h m q l r => .exc (e _ _ h) m (q.imp_right fun ⟨dd, h1, h2⟩ => ⟨dd, h1, e _ _ h2⟩) l (Rps.mono e r)
theorem Rps.mono (e : Same Z Z') : ∀ {v : List V} {d : List D}, Rps M Z v d → Rps M Z' v d
  | _, _, .nil => .nil
  | _, _, .cons h r => .cons (Rp.mono e h) (Rps.mono e r)
end
theorem Rps.length : ∀ {vs : List V} {ds : List D}, Rps M Z vs ds → vs.length = ds.length
  | _, _, .nil => rfl
  | _, _, .cons _ r => by rw [List.length_cons, List.length_cons, r.length]
theorem Rps.get : ∀ {vs : List V} {ds : List D} {i : Nat} {d : D}, Rps M Z vs ds → ds[i]? = some d → ∃ v, vs[i]? = some v ∧ Rp M Z v d
  | _, _, _, _, .nil, e => by simp at e
  | _, _, 0, _, .cons h _, e => by simp at e; subst e; exact ⟨_, rfl, h⟩
  | _, _, i + 1, d, .cons _ r, e => by
    obtain ⟨v, h1, h2⟩ := Rps.get (i := i) (d := d) r (by simpa using e)
    exact ⟨v, by simpa using h1, h2⟩
theorem Rps.getV : ∀ {vs : List V} {ds : List D} {i : Nat} {v : V}, Rps M Z vs ds → vs[i]? = some v → ∃ d, ds[i]? = some d ∧ Rp M Z v d
  | _, _, _, _, .nil, e => by simp at e
  | _, _, 0, _, .cons h _, e => by simp at e; subst e; exact ⟨_, rfl, h⟩
  | _, _, i + 1, d, .cons _ r, e => by
    obtain ⟨v, h1, h2⟩ := Rps.getV (i := i) (v := d) r (by simpa using e)
    exact ⟨v, by simpa using h1, h2⟩
theorem Rps.append : ∀ {vs ws : List V} {ds es : List D}, Rps M Z vs ds → Rps M Z ws es → Rps M Z (vs ++ ws) (ds ++ es)
  | _, _, _, _, .nil, s => s
  | _, _, _, _, .cons h r, s => .cons h (r.append s)
theorem Rps.set (h : Rp M Z v d) : ∀ {vs : List V} {ds : List D} (i : Nat), Rps M Z vs ds → Rps M Z (vs.set i v) (ds.set i d)
  | _, _, _, .nil => .nil
  | _, _, 0, .cons _ r => .cons h r
  | _, _, i + 1, .cons q r => .cons q (Rps.set h i r)
theorem Rps.take : ∀ {vs : List V} {ds : List D} (n : Nat), Rps M Z vs ds → Rps M Z (vs.take n) (ds.take n)
  | _, _, 0, _ => .nil
  | _, _, _ + 1, .nil => .nil
  | _, _, n + 1, .cons h r => .cons h (Rps.take n r)
theorem Rps.drop : ∀ {vs : List V} {ds : List D} (n : Nat), Rps M Z vs ds → Rps M Z (vs.drop n) (ds.drop n)
  | _, _, 0, r => r
  | _, _, _ + 1, .nil => .nil
  | _, _, n + 1, .cons _ r => Rps.drop n r
theorem Rps.one (h : Rp M Z v d) : Rps M Z [v] [d] := .cons h .nil
theorem Rps.rep (h : Rps M Z vs ds) : ∀ k : Nat, Rps M Z (List.replicate k vs).flatten (List.replicate k ds).flatten
  | 0 => .nil
  | k + 1 => by
    rw [List.replicate_succ, List.replicate_succ, List.flatten_cons, List.flatten_cons]
    exact h.append (h.rep k)
theorem Rps.dropLast (h : Rps M Z vs ds) : Rps M Z vs.dropLast ds.dropLast := by
  rw [List.dropLast_eq_take, List.dropLast_eq_take, h.length]
  exact h.take _
theorem Rps.ints : ∀ (ns : List Int), Rps M Z (ns.map V.int) (ns.map D.int)
  | [] => .nil
  | n :: ns => .cons (.int n) (Rps.ints ns)
end
/-! ### slots -/
/-- a tuple of numbers and texts, as data -/
def keyKD : L2.Key → D
  | .inl i => .int i
  | .inr x => .str x
def keyTD (k : List L2.Key) : D := .tup (k.map keyKD)
/-- a dict whose keys are such tuples: its one object (the tuples are told by themselves) -/
def dicTO (M : MC) (a : Addr) (ks : List (List L2.Key)) (vs : List V) : HO := HO.ext fun h => ∃ xs : List (List L2.Key × Addr × Value), xs.map (·.1) = ks ∧ Vals vs (xs.map (fun x => Value.ref x.2.1) ++ xs.map (fun x => x.2.2)) ∧ ks.length ≤ sizeLine ∧ (a == sysModules) = false ∧ ks.Nodup ∧
  ∃ o es ep, h.get? a = some o ∧ o.ExactDict ∧ o.data = .dict es ep ∧ es.toList = xs.map (entryOfKey (tupleKind (mixKind M.P M.w)))
inductive Sl where
  | hole | val (d : D) | own (xs : List D) | pin (xs : List D) | lent (xs : List D) | dic (ks : List L2.Key) (xs : List D) | dit (ks : List (List L2.Key)) (xs : List D) | wld (S : List D)
abbrev Ev := List Sl
/-- a list's slot -/
def Sl.lst? : Sl → Option (List D)
  | .own xs => some xs
  | .pin xs => some xs
  | .lent xs => some xs
  | _ => none
def Sl.mut? : Sl → Option (List D)
  | .own xs => some xs
  | .pin xs => some xs
  | _ => none
/-- the slot of a list or a dict -/
def Sl.cel? : Sl → Option (List D)
  | .own xs => some xs
  | .pin xs => some xs
  | .lent xs => some xs
  | .dic _ xs => some xs
  | .dit ks xs => some (ks.map keyTD ++ xs)
  | _ => none
def Sl.mc? : Sl → Option (List D)
  | .own xs => some xs
  | .pin xs => some xs
  | .dic _ xs => some xs
  | .dit ks xs => some (ks.map keyTD ++ xs)
  | _ => none
def Sl.ho (s : Sl) (M : MC) (a : Addr) (vs : List V) : HO := match s with
  | .dic ks _ => .dK (ks.zip vs)
  | .dit ks _ => dicTO M a ks vs
  | _ => .lst vs
theorem Sl.cel_of_lst {s : Sl} {xs : List D} (h : s.lst? = some xs) : s.cel? = some xs ∧ ∀ M a vs, s.ho M a vs = .lst vs := by cases s <;> simp_all [Sl.lst?, Sl.cel?, Sl.ho]
theorem Sl.mc_of_mut {s : Sl} {xs : List D} (h : s.mut? = some xs) : s.mc? = some xs ∧ s.lst? = some xs := by cases s <;> simp_all [Sl.mut?, Sl.mc?, Sl.lst?]
def Sl.isPin : Sl → Bool
  | .pin _ => true
  | _ => false
theorem Sl.lst_of_mut {s : Sl} {xs : List D} (h : s.mc? = some xs) : s.cel? = some xs := by cases s <;> simp_all [Sl.mc?, Sl.cel?]
theorem Sl.cel_of_mut {s : Sl} {xs : List D} (h : s.mut? = some xs) : s.cel? = some xs := by cases s <;> simp_all [Sl.mut?, Sl.cel?]
theorem Sl.lst_mut {s : Sl} {xs : List D} (h : s.mut? = some xs) : s.lst? = some xs := by cases s <;> simp_all [Sl.mut?, Sl.lst?]
/-- a thing of the world: a list, an instance, a dict of texts and numbers -/
inductive Cel (M : MC) (Z H : Hp) (a : Addr) : D → Prop
  | lst {vs : List V} {xs : List D} : H a = some (.lst vs) → Rps M Z vs xs → Cel M Z H a (.lst xs)
  | obj {C dx : Addr} {c : Str} {ks : List Str} {vs : List V} {ds : List D} : H a = some (.ins C dx (ks.zip vs)) → M.mg c = some (.ref C) → ks.length = vs.length → Rps M Z vs ds → Cel M Z H a (.obj c ks ds)
  | dct {ks : List L2.Key} {vs : List V} {ds : List D} : H a = some (.dK (ks.zip vs)) → ks.length = vs.length → ks.Nodup → Rps M Z vs ds → Cel M Z H a (.tup [.tup (ks.map keyKD), .tup ds])
  | dctT {ks : List (List L2.Key)} {vs : List V} {ds : List D} : H a = some (dicTO M a ks vs) → Rps M Z vs (ks.map keyTD ++ ds) → Cel M Z H a (.tup [.tup (ks.map keyTD), .tup ds, .non])
  | dctF {o : Obj} {es : Array DictEntry} {ep : Nat} {ks : List L2.Key} {vs : List V} {ds : List D} : H a = some (.frz o (.dK (ks.zip vs))) → o.data = .dict es ep → ks.length = vs.length → ks.Nodup → Rps M Z vs ds → Cel M Z H a (.tup [.tup (ks.map keyKD), .tup ds, .int (ep : Nat), .non])
theorem Cel.mono {M : MC} {Z Z' H H' : Hp} {a : Addr} {c : D} (e : Same Z Z') (h : H' a = H a) (x : Cel M Z H a c) : Cel M Z' H' a c := by
  cases x with
  | lst h1 r => exact .lst (h.trans h1) (r.mono e)
  | obj h1 m l r => exact .obj (h.trans h1) m l (r.mono e)
  | dct h1 l n r => exact .dct (h.trans h1) l n (r.mono e)
  | dctT h1 r => exact .dctT (h.trans h1) (r.mono e)
  | dctF h1 hd l n r => exact .dctF (h.trans h1) hd l n (r.mono e)
theorem Cel.ne {M : MC} {Z H : Hp} {a : Addr} {c : D} (x : Cel M Z H a c) : H a ≠ none := by
  cases x with
  | lst h1 r => rw [h1]; simp
  | obj h1 m l r => rw [h1]; simp
  | dct h1 l n r => rw [h1]; simp
  | dctT h1 r => rw [h1]; simp
  | dctF h1 hd l n r => rw [h1]; simp
/-- the world: its things by their numbers -/
structure WldAt (M : MC) (Z H : Hp) (S : List D) : Prop where
  cel : ∀ a n, Z a = some (.own n) → ∃ c, S[n]? = some c ∧ Cel M Z H a c
  has : ∀ n, n < S.length → ∃ a, Z a = some (.own n)
  one : ∀ a b n, Z a = some (.own n) → Z b = some (.own n) → a = b
theorem WldAt.mono {M : MC} {Z Z' H H' : Hp} {S : List D} (x : WldAt M Z H S) (e : Same Z Z') (t : ∀ a n, Z' a = some (.own n) → Z a = some (.own n)) (k : ∀ a n, Z a = some (.own n) → H' a = H a) : WldAt M Z' H' S :=
  ⟨fun a n h => by
    obtain ⟨c, h1, h2⟩ := x.cel a n (t a n h)
    exact ⟨c, h1, h2.mono e (k a n (t a n h))⟩, fun n h => by
    obtain ⟨a, h1⟩ := x.has n h
    exact ⟨a, e _ _ h1⟩, fun a b n h1 h2 => x.one a b n (t a n h1) (t b n h2)⟩
/-- no world here -/
def NoW (env : Ev) : Prop := ∀ (i : Nat) (S : List D), env[i]? ≠ some (.wld S)
def Sl.isW : Sl → Bool
  | .wld _ => true
  | _ => false
theorem w_of_set {env : Ev} {i j : Nat} {s : Sl} {S : List D} (hs : s.isW = false) (e : (env.set i s)[j]? = some (.wld S)) : env[j]? = some (.wld S) := by
  by_cases hj : i = j
  · subst hj
    by_cases hl : i < env.length
    · rw [List.getElem?_set_self hl] at e
      cases e; cases hs
    · rw [List.getElem?_eq_none (by rw [List.length_set]; omega)] at e
      cases e
  · rw [List.getElem?_set_ne hj] at e
    exact e
structure Rep (M : MC) (Z H : Hp) (env : Ev) (σ : SV) : Prop where
  len : env.length = σ.length
  sub : Sub Z H
  val : ∀ (i : Nat) (d : D), env[i]? = some (.val d) → ∃ v, σ[i]? = some (some v) ∧ Rp M Z v d
  lst : ∀ (i : Nat) (s : Sl) (xs : List D), env[i]? = some s → s.cel? = some xs → ∃ (a : Addr) (vs : List V), σ[i]? = some (some (.ref a)) ∧ H a = some (s.ho M a vs) ∧ Z a = none ∧ Rps M Z vs xs
  apart : ∀ (i j : Nat) (si sj : Sl) (xi xj : List D) (a : Addr), env[i]? = some si → env[j]? = some sj → si.cel? = some xi → sj.cel? = some xj → σ[i]? = some (some (.ref a)) → σ[j]? = some (some (.ref a)) → i = j
  wld : ∀ (i : Nat) (S : List D), env[i]? = some (.wld S) → WldAt M Z H S
  wone : ∀ (i j : Nat) (S T : List D), env[i]? = some (.wld S) → env[j]? = some (.wld T) → i = j
theorem Rep.lst' {M : MC} {Z H : Hp} {env : Ev} {σ : SV} (r : Rep M Z H env σ) (i : Nat) (s : Sl) (xs : List D) (h : env[i]? = some s) (hl : s.lst? = some xs) : ∃ (a : Addr) (vs : List V), σ[i]? = some (some (.ref a)) ∧ H a = some (.lst vs) ∧ Z a = none ∧ Rps M Z vs xs := by
  have := r.lst i s xs h (Sl.cel_of_lst hl).1
  simpa only [(Sl.cel_of_lst hl).2] using this
def Owned (env : Ev) (σ : SV) (a : Addr) : Prop := ∃ (i : Nat) (s : Sl) (xs : List D), env[i]? = some s ∧ s.mc? = some xs ∧ σ[i]? = some (some (V.ref a))
/-- what stays of the world's things -/
structure WK (Z H : Hp) (env : Ev) (Z' H' : Hp) (env' : Ev) : Prop where
  has : ∀ (i : Nat) (S : List D), env[i]? = some (.wld S) → ∃ S', env'[i]? = some (.wld S')
  was : ∀ (i : Nat) (S' : List D), env'[i]? = some (.wld S') → ∃ S, env[i]? = some (.wld S)
  tags : NoW env → ∀ a n, Z' a = some (.own n) → Z a = some (.own n)
  kept : NoW env → ∀ a n, Z a = some (.own n) → H' a = H a
theorem WK.refl {Z H : Hp} {env : Ev} : WK Z H env Z H env := ⟨fun i S h => ⟨S, h⟩, fun i S h => ⟨S, h⟩, fun _ _ _ h => h, fun _ _ _ _ => rfl⟩
theorem WK.now {Z H Z' H' : Hp} {env env' : Ev} (x : WK Z H env Z' H' env') (h : NoW env) : NoW env' := fun i S e => by
  obtain ⟨S', e'⟩ := x.was i S e
  exact h i S' e'
theorem WK.trans {Z H Z1 H1 Z2 H2 : Hp} {env env1 env2 : Ev} (x : WK Z H env Z1 H1 env1) (y : WK Z1 H1 env1 Z2 H2 env2) (s : Same Z Z1) : WK Z H env Z2 H2 env2 where
  has := fun i S h => by
    obtain ⟨S', h'⟩ := x.has i S h
    exact y.has i S' h'
  was := fun i S h => by
    obtain ⟨S', h'⟩ := y.was i S h
    exact x.was i S' h'
  tags := fun n a k h => x.tags n a k (y.tags (x.now n) a k h)
  kept := fun n a k h => (y.kept (x.now n) a k (s _ _ h)).trans (x.kept n a k h)
/-- a slot that is no world is set -/
theorem WK.set {Z H Z' H' : Hp} {env env' : Ev} {i : Nat} {s : Sl} (x : WK Z H env Z' H' env') (h : ∀ S, env'[i]? ≠ some (.wld S)) (hs : s.isW = false) : WK Z H env Z' H' (env'.set i s) where
  has := fun j S e => by
    obtain ⟨S', e'⟩ := x.has j S e
    have hj : i ≠ j := fun z => by subst z; exact h _ e'
    exact ⟨S', by rw [List.getElem?_set_ne hj]; exact e'⟩
  was := fun j S e => by
    by_cases hj : i = j
    · subst hj
      by_cases hl : i < env'.length
      · rw [List.getElem?_set_self hl] at e
        cases e; cases hs
      · rw [List.getElem?_eq_none (by rw [List.length_set]; omega)] at e
        cases e
    · rw [List.getElem?_set_ne hj] at e
      exact x.was j S e
  tags := x.tags
  kept := x.kept
structure Aft (M : MC) (Z H : Hp) (env : Ev) (σ : SV) (Z' H' : Hp) (env' : Ev) (σ' : SV) : Prop where
  rep : Rep M Z' H' env' σ'
  sub : Same Z Z'
  kept : ∀ a, H a ≠ none → ¬ Owned env σ a → (∀ n, Z a ≠ some (.own n)) → H' a = H a ∧ Z' a = Z a
  alive : ∀ a, H a ≠ none → H' a ≠ none
  owned : ∀ a, Owned env' σ' a → Owned env σ a ∨ H a = none
  pins : ∀ (i : Nat) (s : Sl), env[i]? = some s → s.isPin = true → σ'[i]? = σ[i]? ∧ ∃ s', env'[i]? = some s' ∧ s'.isPin = true
  unpin : ∀ (i : Nat) (s' : Sl), env'[i]? = some s' → s'.isPin = true → ∃ s, env[i]? = some s ∧ s.isPin = true
  lents : ∀ (i : Nat) (xs : List D), env[i]? = some (.lent xs) → σ'[i]? = σ[i]? ∧ env'[i]? = some (.lent xs)
  unlent : ∀ (i : Nat) (xs : List D), env'[i]? = some (.lent xs) → env[i]? = some (.lent xs)
  wk : WK Z H env Z' H' env'
section
variable {M : MC} {Z H Z' H' Z1 H1 Z2 H2 : Hp} {env env' env1 env2 : Ev} {σ σ' σ1 σ2 : SV}
theorem Aft.refl (r : Rep M Z H env σ) : Aft M Z H env σ Z H env σ :=
  ⟨r, Same.refl _, fun _ _ _ _ => ⟨rfl, rfl⟩, fun _ h => h, fun _ h => .inl h, fun i s h p => ⟨rfl, s, h, p⟩, fun i s h p => ⟨s, h, p⟩, fun i xs h => ⟨rfl, h⟩, fun i xs h => h, .refl⟩
theorem Aft.trans (a : Aft M Z H env σ Z1 H1 env1 σ1) (b : Aft M Z1 H1 env1 σ1 Z2 H2 env2 σ2) : Aft M Z H env σ Z2 H2 env2 σ2 where
  rep := b.rep
  sub := a.sub.trans b.sub
  kept := fun x hx ho hn => by
    obtain ⟨e1, e2⟩ := a.kept x hx ho hn
    have h1 : H1 x ≠ none := by rw [e1]; exact hx
    have ho1 : ¬ Owned env1 σ1 x := fun z => (a.owned x z).elim ho hx
    obtain ⟨f1, f2⟩ := b.kept x h1 ho1 (fun n => by rw [e2]; exact hn n)
    exact ⟨f1.trans e1, f2.trans e2⟩
  alive := fun x hx => b.alive x (a.alive x hx)
  owned := fun x hx => by
    rcases b.owned x hx with z | z
    · exact a.owned x z
    · refine .inr ?_
      cases q : H x with
      | none => rfl
      | some o => exact absurd z (a.alive x (by rw [q]; simp))
  pins := fun i s h p => by
    obtain ⟨e1, s1, h1, p1⟩ := a.pins i s h p
    obtain ⟨e2, s2, h2, p2⟩ := b.pins i s1 h1 p1
    exact ⟨e2.trans e1, s2, h2, p2⟩
  unpin := fun i s h p => by
    obtain ⟨s1, h1, p1⟩ := b.unpin i s h p
    exact a.unpin i s1 h1 p1
  lents := fun i xs h => by
    obtain ⟨e1, h1⟩ := a.lents i xs h
    obtain ⟨e2, h2⟩ := b.lents i xs h1
    exact ⟨e2.trans e1, h2⟩
  unlent := fun i xs h => a.unlent i xs (b.unlent i xs h)
  wk := a.wk.trans b.wk a.sub
/-- only new things -/
structure Grow (Z H Z' H' : Hp) : Prop where
  sub : Same Z Z'
  sub' : Sub Z' H'
  kept : ∀ a, H a ≠ none → H' a = H a ∧ Z' a = Z a
  tags : ∀ a n, Z' a = some (.own n) → Z a = some (.own n)
theorem Grow.refl (h : Sub Z H) : Grow Z H Z H := ⟨Same.refl _, h, fun _ _ => ⟨rfl, rfl⟩, fun _ _ h => h⟩
theorem Grow.trans (a : Grow Z H Z1 H1) (b : Grow Z1 H1 Z2 H2) : Grow Z H Z2 H2 := ⟨a.sub.trans b.sub, b.sub', fun x hx => by
  obtain ⟨e1, e2⟩ := a.kept x hx
  obtain ⟨f1, f2⟩ := b.kept x (by rw [e1]; exact hx)
  exact ⟨f1.trans e1, f2.trans e2⟩, fun x n h => a.tags x n (b.tags x n h)⟩
theorem Owned.ne (r : Rep M Z H env σ) {a : Addr} (h : Owned env σ a) : H a ≠ none := by
  obtain ⟨i, s, xs, h1, h2, h3⟩ := h
  obtain ⟨b, vs, e1, e2, _⟩ := r.lst i s xs h1 (Sl.lst_of_mut h2)
  rw [h3] at e1
  cases e1
  rw [e2]
  simp
theorem Rep.grow (r : Rep M Z H env σ) (g : Grow Z H Z' H') : Aft M Z H env σ Z' H' env σ where
  rep := ⟨r.len, g.sub', fun i d h => by
      obtain ⟨v, e, q⟩ := r.val i d h
      exact ⟨v, e, q.mono g.sub⟩, fun i s xs h1 h2 => by
      obtain ⟨a, vs, e1, e2, e3, e4⟩ := r.lst i s xs h1 h2
      obtain ⟨f1, f2⟩ := g.kept a (by rw [e2]; simp)
      exact ⟨a, vs, e1, f1.trans e2, f2.trans e3, e4.mono g.sub⟩, r.apart, fun i S h => (r.wld i S h).mono g.sub g.tags fun a n h => (g.kept a (r.sub.al a (by rw [h]; simp))).1, r.wone⟩
  sub := g.sub
  kept := fun a h _ _ => g.kept a h
  alive := fun a h => by rw [(g.kept a h).1]; exact h
  owned := fun a h => .inl h
  pins := fun i s h p => ⟨rfl, s, h, p⟩
  unpin := fun i s h p => ⟨s, h, p⟩
  lents := fun i xs h => ⟨rfl, h⟩
  unlent := fun i xs h => h
  wk := ⟨fun i S h => ⟨S, h⟩, fun i S h => ⟨S, h⟩, fun _ => g.tags, fun _ a n h => (g.kept a (r.sub.al a (by rw [h]; simp))).1⟩
/-- a new object, frozen -/
theorem none_of_sub {a : Addr} (h : Sub Z H) (hp : H a = none) : Z a = none := by
  cases q : Z a with
  | none => rfl
  | some o => exact absurd hp (h.al a (by rw [q]; simp))
theorem Grow.frz {p : Addr} {o : HO} (h : Sub Z H) (hp : H p = none) (ht : tagO o = false := by rfl) : Grow Z H (upd Z p o) (upd H p o) where
  sub := fun a u e => by
    have : a ≠ p := fun z => by subst z; rw [none_of_sub h hp] at e; cases e
    rw [upd_ne this]; exact e
  sub' := ⟨fun a u e t => by
    by_cases z : a = p
    · subst z; rw [upd_same] at e ⊢; exact e
    · rw [upd_ne z] at e ⊢; exact h.th _ _ e t, fun a e => by
    by_cases z : a = p
    · subst z; rw [upd_same]; simp
    · rw [upd_ne z] at e ⊢; exact h.al _ e⟩
  tags := fun a n e => by
    by_cases z : a = p
    · subst z; rw [upd_same] at e; cases e; cases ht
    · rw [upd_ne z] at e; exact e
  kept := fun a ha => by
    have : a ≠ p := fun z => by rw [z] at ha; exact ha hp
    exact ⟨upd_ne this, upd_ne this⟩
/-- a new list, one's own -/
theorem Grow.own {p : Addr} {o : HO} (h : Sub Z H) (hp : H p = none) : Grow Z H Z (upd H p o) where
  sub := Same.refl _
  sub' := ⟨fun a u e t => by
    have z : a ≠ p := fun z => by subst z; rw [none_of_sub h hp] at e; cases e
    rw [upd_ne z]; exact h.th _ _ e t, fun a e => by
    have z : a ≠ p := fun z => by subst z; exact e (none_of_sub h hp)
    rw [upd_ne z]; exact h.al _ e⟩
  tags := fun _ _ h => h
  kept := fun a ha => by
    have : a ≠ p := fun z => by rw [z] at ha; exact ha hp
    exact ⟨upd_ne this, rfl⟩
end
/-! ### results -/
structure Exn where
  c : Str
  ks : List Str
  ds : List D
inductive Out (α : Type) where
  | ok (a : α) (e : Ev) | exn (x : Exn) (e : Ev) | bad
def Out.bind {α β : Type} (o : Out α) (k : α → Ev → Out β) : Out β := match o with
  | .ok a e => k a e
  | .exn x e => .exn x e
  | .bad => .bad
inductive R where
  | val (d : D) | new (xs : List D) | at (i : Nat) | liv (n : Nat)
/-- the world's things -/
def wldOf : Ev → Option (List D)
  | [] => none
  | .wld S :: _ => some S
  | _ :: e => wldOf e
theorem wldOf_at : ∀ {e : Ev} {S : List D}, wldOf e = some S → ∃ i : Nat, e[i]? = some (.wld S)
  | s :: e, S, h => by
    cases s with
    | wld T => cases h; exact ⟨0, rfl⟩
    | _ =>
      obtain ⟨i, hi⟩ := wldOf_at (e := e) h
      exact ⟨i + 1, by simpa using hi⟩
/-- a live list's items -/
def livL (o : Option D) : Option (List D) := match o with
  | some (.lst xs) => some xs
  | _ => none
def livAt (e : Ev) (n : Nat) : Option (List D) := (wldOf e).bind fun S => livL S[n]?
def R.read (r : R) (env : Ev) : Option D := match r with
  | .val d => some d
  | .new xs => some (.lst xs)
  | .at i => match env[i]? with
    | some (.val d) => some d
    | some s => s.lst?.map D.lst
    | none => none
  | .liv n => (livAt env n).map D.lst
def R.esc (r : R) (env : Ev) : Option (D × Ev) := match r with
  | .val d => some (d, env)
  | .new xs => some (.lst xs, env)
  | .at i => match env[i]? with
    | some (.val d) => some (d, env)
    | some (.own xs) => some (.lst xs, env.set i (.val (.lst xs)))
    | _ => none
  | .liv n => some (.ref n, env)
/-- the address of some list's slot -/
def Listy (env : Ev) (σ : SV) (a : Addr) : Prop := ∃ (i : Nat) (s : Sl) (xs : List D), env[i]? = some s ∧ s.cel? = some xs ∧ σ[i]? = some (some (V.ref a))
def RR (M : MC) (Z' H' : Hp) (env' : Ev) (σ : SV) (H : Hp) (v : V) : R → Prop
  | .val d => Rp M Z' v d
  | .new xs => ∃ (a : Addr) (vs : List V), v = .ref a ∧ H' a = some (.lst vs) ∧ Z' a = none ∧ Rps M Z' vs xs ∧ H a = none ∧ ¬ Listy env' σ a
  | .at i => σ[i]? = some (some v)
  | .liv n => ∃ a : Addr, v = .ref a ∧ Z' a = some (.own n)
/-- as it is to be read -/
def Now (M : MC) (Z H : Hp) (v : V) (d : D) : Prop := Rp M Z v d ∨ ∃ (a : Addr) (vs : List V) (xs : List D), v = .ref a ∧ d = .lst xs ∧ H a = some (.lst vs) ∧ Rps M Z vs xs
section
variable {M : MC} {Z H Z' H' Z1 H1 Z2 H2 H0 : Hp} {env env' env1 env2 : Ev} {σ σ' σ1 σ2 : SV} {v : V} {d : D} {r : R} {a : Addr}
theorem Owned.listy (h : Owned env σ a) : Listy env σ a := by
  obtain ⟨i, s, xs, h1, h2, h3⟩ := h
  exact ⟨i, s, xs, h1, Sl.lst_of_mut h2, h3⟩
theorem Sl.mut_or {s : Sl} {xs : List D} (h : s.cel? = some xs) : s.mc? = some xs ∨ s = .lent xs := by
  cases s <;> simp_all [Sl.mc?, Sl.cel?]
theorem Aft.listy (x : Aft M Z H env σ Z' H' env' σ') (h : Listy env' σ' a) : Listy env σ a ∨ H a = none := by
  obtain ⟨i, s, xs, h1, h2, h3⟩ := h
  rcases Sl.mut_or h2 with q | q
  · rcases x.owned a ⟨i, s, xs, h1, q, h3⟩ with z | z
    · exact .inl z.listy
    · exact .inr z
  · subst q
    have h0 := x.unlent i xs h1
    obtain ⟨e, _⟩ := x.lents i xs h0
    exact .inl ⟨i, _, xs, h0, h2, e ▸ h3⟩
theorem Listy.ne (r : Rep M Z H env σ) (h : Listy env σ a) : H a ≠ none := by
  obtain ⟨i, s, xs, h1, h2, h3⟩ := h
  obtain ⟨b, vs, e1, e2, _⟩ := r.lst i s xs h1 h2
  rw [h3] at e1
  cases e1
  rw [e2]
  simp
theorem RR.stay (q : RR M Z1 H1 env1 σ H0 v r) (x : Aft M Z1 H1 env1 σ Z2 H2 env2 σ) : RR M Z2 H2 env2 σ H0 v r := by
  cases r with
  | val d => exact Rp.mono x.sub q
  | new xs =>
    obtain ⟨p, vs, e1, e2, e3, e4, e5, e6⟩ := q
    have hp : H1 p ≠ none := by rw [e2]; simp
    obtain ⟨f1, f2⟩ := x.kept p hp (fun z => e6 z.listy) (by rw [e3]; simp)
    refine ⟨p, vs, e1, f1.trans e2, f2.trans e3, e4.mono x.sub, e5, fun z => ?_⟩
    rcases x.listy z with z | z
    · exact e6 z
    · exact hp z
  | «at» i => exact q
  | liv n =>
    obtain ⟨a, e1, e2⟩ := q
    exact ⟨a, e1, x.sub _ _ e2⟩
theorem RR.older (q : RR M Z1 H1 env1 σ H0 v r) (h : ∀ a, H a ≠ none → H0 a ≠ none) : RR M Z1 H1 env1 σ H v r := by
  cases r with
  | val d => exact q
  | new xs =>
    obtain ⟨p, vs, e1, e2, e3, e4, e5, e6⟩ := q
    refine ⟨p, vs, e1, e2, e3, e4, ?_, e6⟩
    cases z : H p with
    | none => rfl
    | some o => exact absurd e5 (h p (by rw [z]; simp))
  | «at» i => exact q
  | liv n => exact q
theorem RR.now (q : RR M Z H env σ H0 v r) (rep : Rep M Z H env σ) (e : r.read env = some d) : Now M Z H v d := by
  cases r with
  | val d' => cases e; exact .inl q
  | new xs =>
    cases e
    obtain ⟨p, vs, e1, e2, e3, e4, _⟩ := q
    exact .inr ⟨p, vs, xs, e1, rfl, e2, e4⟩
  | «at» i =>
    have q : σ[i]? = some (some v) := q
    unfold R.read at e
    have lis : ∀ s xs, env[i]? = some s → s.lst? = some xs → d = .lst xs → Now M Z H v d := fun s xs h1 h2 h3 => by
      obtain ⟨a, vs, f1, f2, f3, f4⟩ := rep.lst i s xs h1 (Sl.cel_of_lst h2).1
      rw [(Sl.cel_of_lst h2).2] at f2
      rw [q] at f1
      cases f1
      exact .inr ⟨a, vs, xs, rfl, h3, f2, f4⟩
    simp only at e
    split at e
    · rename_i d' h
      cases e
      obtain ⟨w, e1, e2⟩ := rep.val i _ h
      rw [q] at e1
      cases e1
      exact .inl e2
    · rename_i s _ h
      cases hs : s.lst? with
      | none => rw [hs] at e; cases e
      | some xs =>
        rw [hs] at e
        cases e
        exact lis s xs h hs rfl
    · cases e
  | liv n =>
    obtain ⟨a, e1, e2⟩ := q
    unfold R.read livAt at e
    cases hw : wldOf env with
    | none => rw [hw] at e; cases e
    | some S =>
      rw [hw] at e
      obtain ⟨i, hi⟩ := wldOf_at hw
      obtain ⟨c, c1, c2⟩ := (rep.wld i S hi).cel a n e2
      simp only [Option.bind_some, c1] at e
      cases c2 with
      | lst h r => cases e; exact .inr ⟨a, _, _, e1, rfl, h, r⟩
      | obj => cases e
      | dct => cases e
      | dctT => cases e
      | dctF => cases e
theorem same_frz {o : HO} (hz : Z a = none) : Same Z (upd Z a o) := fun b u e => by
  have : b ≠ a := fun z => by rw [z, hz] at e; cases e
  rw [upd_ne this]; exact e
/-- a value in a slot -/
theorem Rep.val_set {i : Nat} (r : Rep M Z H env σ) (h : Rp M Z v d) : Rep M Z H (env.set i (.val d)) (σ.set i (some v)) where
  len := by rw [List.length_set, List.length_set]; exact r.len
  sub := r.sub
  val := fun j d' e => by
    by_cases hj : i = j
    · subst hj
      by_cases hl : i < env.length
      · rw [List.getElem?_set_self hl] at e
        cases e
        exact ⟨v, List.getElem?_set_self (by rw [← r.len]; exact hl), h⟩
      · rw [List.getElem?_eq_none (by rw [List.length_set]; omega)] at e
        cases e
    · rw [List.getElem?_set_ne hj] at e ⊢
      exact r.val j d' e
  lst := fun j s xs e1 e2 => by
    by_cases hj : i = j
    · subst hj
      by_cases hl : i < env.length
      · rw [List.getElem?_set_self hl] at e1
        cases e1
        cases e2
      · rw [List.getElem?_eq_none (by rw [List.length_set]; omega)] at e1
        cases e1
    · rw [List.getElem?_set_ne hj] at e1 ⊢
      exact r.lst j s xs e1 e2
  apart := fun j k sj sk xj xk a e1 e2 e3 e4 e5 e6 => by
    have n1 : i ≠ j := fun z => by
      subst z
      by_cases hl : i < env.length
      · rw [List.getElem?_set_self hl] at e1
        cases e1; cases e3
      · rw [List.getElem?_eq_none (by rw [List.length_set]; omega)] at e1
        cases e1
    have n2 : i ≠ k := fun z => by
      subst z
      by_cases hl : i < env.length
      · rw [List.getElem?_set_self hl] at e2
        cases e2; cases e4
      · rw [List.getElem?_eq_none (by rw [List.length_set]; omega)] at e2
        cases e2
    rw [List.getElem?_set_ne n1] at e1 e5
    rw [List.getElem?_set_ne n2] at e2 e6
    exact r.apart j k sj sk xj xk a e1 e2 e3 e4 e5 e6
  wld := fun j S e => r.wld j S (w_of_set rfl e)
  wone := fun j k S T e1 e2 => r.wone j k S T (w_of_set rfl e1) (w_of_set rfl e2)
theorem set_same {α : Type} {l : List α} {i : Nat} {x : α} (h : l[i]? = some x) : l.set i x = l := by
  apply List.ext_getElem?
  intro j
  by_cases hj : i = j
  · subst hj
    rw [List.getElem?_set_self (List.getElem?_eq_some_iff.mp h).1, h]
  · rw [List.getElem?_set_ne hj]
theorem Rep.hole_set {i : Nat} {o : Option V} (r : Rep M Z H env σ) : Rep M Z H (env.set i .hole) (σ.set i o) where
  len := by rw [List.length_set, List.length_set]; exact r.len
  sub := r.sub
  val := fun j d' e => by
    by_cases hj : i = j
    · subst hj
      by_cases hl : i < env.length
      · rw [List.getElem?_set_self hl] at e
        cases e
      · rw [List.getElem?_eq_none (by rw [List.length_set]; omega)] at e
        cases e
    · rw [List.getElem?_set_ne hj] at e ⊢
      exact r.val j d' e
  lst := fun j s xs e1 e2 => by
    by_cases hj : i = j
    · subst hj
      by_cases hl : i < env.length
      · rw [List.getElem?_set_self hl] at e1
        cases e1
        cases e2
      · rw [List.getElem?_eq_none (by rw [List.length_set]; omega)] at e1
        cases e1
    · rw [List.getElem?_set_ne hj] at e1 ⊢
      exact r.lst j s xs e1 e2
  apart := fun j k sj sk xj xk a e1 e2 e3 e4 e5 e6 => by
    have n1 : i ≠ j := fun z => by
      subst z
      by_cases hl : i < env.length
      · rw [List.getElem?_set_self hl] at e1
        cases e1; cases e3
      · rw [List.getElem?_eq_none (by rw [List.length_set]; omega)] at e1
        cases e1
    have n2 : i ≠ k := fun z => by
      subst z
      by_cases hl : i < env.length
      · rw [List.getElem?_set_self hl] at e2
        cases e2; cases e4
      · rw [List.getElem?_eq_none (by rw [List.length_set]; omega)] at e2
        cases e2
    rw [List.getElem?_set_ne n1] at e1 e5
    rw [List.getElem?_set_ne n2] at e2 e6
    exact r.apart j k sj sk xj xk a e1 e2 e3 e4 e5 e6
  wld := fun j S e => r.wld j S (w_of_set rfl e)
  wone := fun j k S T e1 e2 => r.wone j k S T (w_of_set rfl e1) (w_of_set rfl e2)
/-- one list of H becomes frozen -/
theorem Rep.frzmore {vs : List V} (r : Rep M Z H env σ) (ha : H a = some (.lst vs)) (hz : Z a = none) (hn : ¬ Listy env σ a) : Rep M (upd Z a (.lst vs)) H env σ := by
  have sb : Same Z (upd Z a (.lst vs)) := same_frz hz
  refine ⟨r.len, ⟨fun b o e t => ?_, fun b e => ?_⟩, fun i d h => ?_, fun i s xs h1 h2 => ?_, r.apart, fun i S h => (r.wld i S h).mono sb (fun b n e => ?_) (fun _ _ _ => rfl), r.wone⟩
  · by_cases z : b = a
    · subst z; rw [upd_same] at e; cases e; exact ha
    · rw [upd_ne z] at e; exact r.sub.th _ _ e t
  · by_cases z : b = a
    · subst z; rw [ha]; simp
    · rw [upd_ne z] at e; exact r.sub.al _ e
  · obtain ⟨v, e, q⟩ := r.val i d h
    exact ⟨v, e, q.mono sb⟩
  · obtain ⟨b, ws, e1, e2, e3, e4⟩ := r.lst i s xs h1 h2
    refine ⟨b, ws, e1, e2, ?_, e4.mono sb⟩
    have : b ≠ a := fun z => hn ⟨i, s, xs, h1, h2, by rw [e1, z]⟩
    rw [upd_ne this]; exact e3
  · by_cases z : b = a
    · subst z; rw [upd_same] at e; cases e
    · rw [upd_ne z] at e; exact e
/-- an own list of a slot becomes frozen -/
theorem Rep.freeze {i : Nat} {xs : List D} (r : Rep M Z H env σ) (h : env[i]? = some (.own xs)) :
    ∃ p vs, σ[i]? = some (some (V.ref p)) ∧ H p = some (.lst vs) ∧ Z p = none ∧ Rp M (upd Z p (.lst vs)) (.ref p) (.lst xs) ∧ Aft M Z H env σ (upd Z p (.lst vs)) H (env.set i (.val (.lst xs))) σ := by
  obtain ⟨p, vs, e1, e2, e3, e4⟩ := r.lst i _ xs h rfl
  have sb : Same Z (upd Z p (.lst vs)) := same_frz e3
  have hp : Rp M (upd Z p (.lst vs)) (.ref p) (.lst xs) := .lst upd_same (e4.mono sb)
  have hi : i < env.length := (List.getElem?_eq_some_iff.mp h).1
  have r1 : Rep M Z H (env.set i .hole) σ := by
    have q := r.hole_set (i := i) (o := some (V.ref p))
    rw [set_same e1] at q
    exact q
  have nl : ¬ Listy (env.set i .hole) σ p := fun ⟨j, s, ys, h1, h2, h3⟩ => by
    by_cases hj : i = j
    · subst hj
      rw [List.getElem?_set_self hi] at h1
      cases h1; cases h2
    · rw [List.getElem?_set_ne hj] at h1
      exact hj (r.apart i j _ s xs ys p h h1 rfl h2 e1 h3)
  have r2 := (r1.frzmore e2 e3 nl).val_set (i := i) hp
  rw [set_same e1, List.set_set] at r2
  refine ⟨p, vs, e1, e2, e3, hp, r2, sb, fun a h1 h2 _ => ⟨rfl, ?_⟩, fun a h => h, fun a h1 => .inl ?_, fun j s h1 h2 => ⟨rfl, s, ?_, h2⟩, fun j s h1 h2 => ⟨s, ?_, h2⟩, fun j ys h1 => ⟨rfl, ?_⟩, fun j ys h1 => ?_, (WK.mk (fun j S h => ⟨S, h⟩) (fun j S h => ⟨S, h⟩) (fun _ b n e => ?_) (fun _ _ _ _ => rfl) : WK Z H env (upd Z p (.lst vs)) H env).set (fun S e => by rw [h] at e; cases e) rfl⟩
  · have : a ≠ p := fun z => h2 ⟨i, _, xs, h, rfl, by rw [z]; exact e1⟩
    exact upd_ne this
  · obtain ⟨j, s, ys, f1, f2, f3⟩ := h1
    by_cases hj : i = j
    · subst hj
      rw [List.getElem?_set_self hi] at f1
      cases f1; cases f2
    · rw [List.getElem?_set_ne hj] at f1
      exact ⟨j, s, ys, f1, f2, f3⟩
  · have hj : i ≠ j := fun z => by subst z; rw [h] at h1; cases h1; cases h2
    rw [List.getElem?_set_ne hj]; exact h1
  · have hj : i ≠ j := fun z => by
      subst z
      rw [List.getElem?_set_self hi] at h1
      cases h1; cases h2
    rw [List.getElem?_set_ne hj] at h1; exact h1
  · have hj : i ≠ j := fun z => by subst z; rw [h] at h1; cases h1
    rw [List.getElem?_set_ne hj]; exact h1
  · have hj : i ≠ j := fun z => by
      subst z
      rw [List.getElem?_set_self hi] at h1
      cases h1
    rw [List.getElem?_set_ne hj] at h1; exact h1
  · by_cases z : b = p
    · subst z; rw [upd_same] at e; cases e
    · rw [upd_ne z] at e; exact e
/-- the frozen part grows by what is new since H0 -/
structure AftE (M : MC) (H0 : Hp) (Z H : Hp) (env : Ev) (σ : SV) (Z' : Hp) (env' : Ev) : Prop where
  rep : Rep M Z' H env' σ
  sub : Same Z Z'
  kept : ∀ a, H0 a ≠ none → ¬ Owned env σ a → Z' a = Z a
  owned : ∀ a, Owned env' σ a → Owned env σ a
  pins : ∀ (i : Nat) (s : Sl), s.isPin = true → (env[i]? = some s ↔ env'[i]? = some s)
  lents : ∀ (i : Nat) (xs : List D), env[i]? = some (.lent xs) ↔ env'[i]? = some (.lent xs)
  wlds : ∀ (i : Nat) (S : List D), env[i]? = some (.wld S) ↔ env'[i]? = some (.wld S)
  tags : ∀ a n, Z' a = some (.own n) → Z a = some (.own n)
theorem AftE.refl (r : Rep M Z H env σ) : AftE M H0 Z H env σ Z env := ⟨r, Same.refl _, fun _ _ _ => rfl, fun _ h => h, fun _ _ _ => .rfl, fun _ _ => .rfl, fun _ _ => .rfl, fun _ _ h => h⟩
theorem AftE.trans {Z1 Z2 : Hp} (x : AftE M H0 Z H env σ Z1 env1) (y : AftE M H0 Z1 H env1 σ Z2 env2) : AftE M H0 Z H env σ Z2 env2 :=
  ⟨y.rep, x.sub.trans y.sub, fun a h1 h2 => (y.kept a h1 fun z => h2 (x.owned a z)).trans (x.kept a h1 h2), fun a h => x.owned a (y.owned a h), fun i s p => (x.pins i s p).trans (y.pins i s p), fun i xs => (x.lents i xs).trans (y.lents i xs), fun i xs => (x.wlds i xs).trans (y.wlds i xs), fun a n h => x.tags a n (y.tags a n h)⟩
theorem AftE.of_aft (x : Aft M Z H env σ Z' H env' σ) (hp : ∀ (i : Nat) (s : Sl), s.isPin = true → (env[i]? = some s ↔ env'[i]? = some s)) (h0 : ∀ a, H0 a ≠ none → H a ≠ none) (ho : ∀ a, Owned env' σ a → Owned env σ a) (hw : ∀ (i : Nat) (S : List D), env[i]? = some (.wld S) ↔ env'[i]? = some (.wld S)) (ht : ∀ a n, Z' a = some (.own n) → Z a = some (.own n)) : AftE M H0 Z H env σ Z' env' :=
  ⟨x.rep, x.sub, fun a h1 h2 => by
    cases q : Z a with
    | none => exact (x.kept a (h0 a h1) h2 (by rw [q]; simp)).2.trans q
    | some u => exact x.sub _ _ q, ho, hp, fun i xs => ⟨fun h => (x.lents i xs h).2, fun h => x.unlent i xs h⟩, hw, ht⟩
/-- from the start of the expression -/
theorem Aft.escaped {Zb Hb : Hp} {envb : Ev} {σb : SV} (x : Aft M Zb Hb envb σb Z H env σ) (y : AftE M Hb Z H env σ Z' env') : Aft M Zb Hb envb σb Z' H env' σ where
  rep := y.rep
  sub := x.sub.trans y.sub
  kept := fun a h1 h2 h3 => by
    obtain ⟨e1, e2⟩ := x.kept a h1 h2 h3
    refine ⟨e1, (y.kept a h1 fun z => ?_).trans e2⟩
    exact (x.owned a z).elim h2 h1
  alive := x.alive
  owned := fun a h => x.owned a (y.owned a h)
  pins := fun i s h p => by
    obtain ⟨e, s', h', p'⟩ := x.pins i s h p
    exact ⟨e, s', (y.pins i s' p').mp h', p'⟩
  unpin := fun i s h p => x.unpin i s ((y.pins i s p).mpr h) p
  lents := fun i xs h => by
    obtain ⟨e, h'⟩ := x.lents i xs h
    exact ⟨e, (y.lents i xs).mp h'⟩
  unlent := fun i xs h => x.unlent i xs ((y.lents i xs).mpr h)
  wk := ⟨fun i S h => by
    obtain ⟨S', h'⟩ := x.wk.has i S h
    exact ⟨S', (y.wlds i S').mp h'⟩, fun i S h => x.wk.was i S ((y.wlds i S).mpr h), fun n a k h => x.wk.tags n a k (y.tags a k h), x.wk.kept⟩
/-- a result is given away -/
theorem RR.escape (q : RR M Z H env σ H0 v r) (rep : Rep M Z H env σ) (h0 : ∀ a, H0 a ≠ none → H a ≠ none) (e : r.esc env = some (d, env')) : ∃ Z', Rp M Z' v d ∧ AftE M H0 Z H env σ Z' env' := by
  cases r with
  | val d' =>
    cases e
    exact ⟨Z, q, .refl rep⟩
  | new xs =>
    cases e
    obtain ⟨p, vs, e1, e2, e3, e4, e5, e6⟩ := q
    subst e1
    refine ⟨upd Z p (.lst vs), .lst upd_same (e4.mono (same_frz e3)), rep.frzmore e2 e3 e6, same_frz e3, fun a h1 h2 => ?_, fun _ h => h, fun _ _ _ => .rfl, fun _ _ => .rfl, fun _ _ => .rfl, fun a n e => ?_⟩
    · have : a ≠ p := fun z => by rw [z] at h1; exact h1 e5
      exact upd_ne this
    · by_cases z : a = p
      · subst z; rw [upd_same] at e; cases e
      · rw [upd_ne z] at e; exact e
  | «at» i =>
    have q : σ[i]? = some (some v) := q
    unfold R.esc at e
    simp only at e
    split at e
    · rename_i d' h
      cases e
      obtain ⟨w, e1, e2⟩ := rep.val i _ h
      rw [q] at e1
      cases e1
      exact ⟨Z, e2, .refl rep⟩
    · rename_i xs h
      cases e
      obtain ⟨p, vs, e1, e2, e3, e4, x⟩ := rep.freeze h
      rw [q] at e1
      cases e1
      have hi : i < env.length := (List.getElem?_eq_some_iff.mp h).1
      refine ⟨_, e4, .of_aft x (fun j s hs => ?_) h0 (fun a ho => ?_) (fun j S => ?_) (fun a n e => ?_)⟩
      · by_cases hj : i = j
        · subst hj
          rw [List.getElem?_set_self hi, h]
          constructor
          · intro z; cases z; cases hs
          · intro z; cases z; cases hs
        · rw [List.getElem?_set_ne hj]
      · obtain ⟨j, s, ys, f1, f2, f3⟩ := ho
        by_cases hj : i = j
        · subst hj
          rw [List.getElem?_set_self hi] at f1
          cases f1; cases f2
        · rw [List.getElem?_set_ne hj] at f1
          exact ⟨j, s, ys, f1, f2, f3⟩
      · by_cases hj : i = j
        · subst hj
          rw [List.getElem?_set_self hi, h]
          constructor
          · intro z; cases z
          · intro z; cases z
        · rw [List.getElem?_set_ne hj]
      · by_cases z : a = p
        · subst z; rw [upd_same] at e; cases e
        · rw [upd_ne z] at e; exact e
    · cases e
  | liv n =>
    cases e
    obtain ⟨a, e1, e2⟩ := q
    subst e1
    exact ⟨Z, .ref e2, .refl rep⟩
end
end DV
namespace DV
open PySem PySem.Spec L2
def XR (M : MC) (Z H : Hp) (cv : Value) (d : Option Addr) (x : Exn) : Prop :=
  ∃ C, cv = .ref C ∧ M.mg x.c = some (.ref C) ∧ ((d = none ∧ x.ks = [] ∧ x.ds = []) ∨ ∃ (dd : Addr) (vs : List V), d = some dd ∧ Z dd = some (.xd (x.ks.zip vs)) ∧ x.ks.length = vs.length ∧ Rps M Z vs x.ds)
def Post (M : MC) (W : WX) (Z H : Hp) (env : Ev) (σ : SV) {α : Type} (o : Out α) (G : α → Ev → Hp → Hp → Prop) : Prop := match o with
  | .ok a e => ∀ Z' H', Aft M Z H env σ Z' H' e σ → G a e Z' H'
  | .exn x e => ∀ cv d Z' H', Aft M Z H env σ Z' H' e σ → XR M Z' H' cv d x → W cv d σ H'
  | .bad => False
section
variable {M : MC} {W : WX} {Z H Z' H' Z1 H1 Z2 H2 H0 : Hp} {env env' env1 env2 : Ev} {σ σ' σ1 σ2 : SV} {v : V} {d : D} {r : R} {a : Addr} {α β : Type} {o : Out α}
theorem Post.bind {k : α → Ev → Out β} {G : β → Ev → Hp → Hp → Prop} (h : Post M W Z H env σ (o.bind k) G) : Post M W Z H env σ o fun a e Z1 H1 => Post M W Z1 H1 e σ (k a e) G := by
  cases o with
  | ok a e =>
    intro Z1 H1 x
    have h : Post M W Z H env σ (k a e) G := h
    show Post M W Z1 H1 e σ (k a e) G
    cases q : k a e with
    | ok b e2 => rw [q] at h; exact fun Z2 H2 y => h Z2 H2 (x.trans y)
    | exn b e2 => rw [q] at h; exact fun cv d Z2 H2 y => h cv d Z2 H2 (x.trans y)
    | bad => rw [q] at h; exact h
  | exn x e => exact h
  | bad => exact h
theorem Post.bindB {k : α → Ev → Out β} {G : β → Ev → Hp → Hp → Prop} (h : Post M W Z H env σ (o.bind k) G) : Post M W Z H env σ o fun a e Z1 H1 => Post M W Z H env σ (k a e) G := by
  cases o with
  | ok a e => exact fun Z1 H1 x => h
  | exn x e => exact h
  | bad => exact h
theorem Post.rel {G : α → Ev → Hp → Hp → Prop} (x : Aft M Z H env σ Z1 H1 env1 σ) (h : Post M W Z H env σ o G) : Post M W Z1 H1 env1 σ o G := by
  cases o with
  | ok a e => exact fun Z2 H2 y => h Z2 H2 (x.trans y)
  | exn b e => exact fun cv d Z2 H2 y => h cv d Z2 H2 (x.trans y)
  | bad => exact h
theorem Post.mono {G G' : α → Ev → Hp → Hp → Prop} (h : Post M W Z H env σ o G) (k : ∀ a e Z' H', Aft M Z H env σ Z' H' e σ → G a e Z' H' → G' a e Z' H') : Post M W Z H env σ o G' := by
  cases o with
  | ok a e => exact fun Z' H' x => k a e Z' H' x (h Z' H' x)
  | exn x e => exact h
  | bad => exact h
theorem Post.ok {a : α} {G : α → Ev → Hp → Hp → Prop} (h : Post M W Z H env σ (.ok a env) G) (r : Rep M Z H env σ) : G a env Z H := h Z H (.refl r)
theorem Post.okG {a : α} {G : α → Ev → Hp → Hp → Prop} (h : Post M W Z H env σ (.ok a env) G) (r : Rep M Z H env σ) (g : Grow Z H Z' H') : G a env Z' H' := h Z' H' (r.grow g)
end
abbrev SE := Ev → Out R
abbrev SB := Ev → Out Bool
abbrev SL := Ev → Out (List R)
def tE (M : MC) (W : WX) (f : SE) : TE := fun σ H Q => ∃ Z env, Rep M Z H env σ ∧ Post M W Z H env σ (f env) fun r e Z' H' => ∀ v, RR M Z' H' e σ H v r → Q v H'
def tT (M : MC) (W : WX) (f : SB) : TT := fun σ H Q => ∃ Z env, Rep M Z H env σ ∧ Post M W Z H env σ (f env) fun b e Z' H' => Q b H'
/-- the new lists' values -/
def news : List V → List R → List V
  | v :: vs, .new _ :: rs => v :: news vs rs
  | _ :: vs, _ :: rs => news vs rs
  | _, _ => []
def R.isNew : R → Bool
  | .new _ => true
  | _ => false
def RRs (M : MC) (Z H : Hp) (env : Ev) (σ : SV) (H0 : Hp) : List V → List R → Prop
  | [], [] => True
  | v :: vs, r :: rs => RR M Z H env σ H0 v r ∧ (r.isNew = true → v ∉ news vs rs) ∧ RRs M Z H env σ H0 vs rs
  | _, _ => False
def tL (M : MC) (W : WX) (f : SL) : TA := fun σ H Q => ∃ Z env, Rep M Z H env σ ∧ Post M W Z H env σ (f env) fun rs e Z' H' => ∀ vs, RRs M Z' H' e σ H vs rs → Q vs H'
section
variable {M : MC} {Z H Z' H' Z1 H1 Z2 H2 H0 : Hp} {env env' env1 env2 : Ev} {σ : SV}
theorem RRs.stay (x : Aft M Z1 H1 env1 σ Z2 H2 env2 σ) : ∀ {vs : List V} {rs : List R}, RRs M Z1 H1 env1 σ H0 vs rs → RRs M Z2 H2 env2 σ H0 vs rs
  | [], [], _ => trivial
  | v :: vs, r :: rs, ⟨h1, h2, h3⟩ => ⟨h1.stay x, h2, RRs.stay x h3⟩
theorem RRs.older (h : ∀ a, H a ≠ none → H0 a ≠ none) : ∀ {vs : List V} {rs : List R}, RRs M Z1 H1 env1 σ H0 vs rs → RRs M Z1 H1 env1 σ H vs rs
  | [], [], _ => trivial
  | v :: vs, r :: rs, ⟨h1, h2, h3⟩ => ⟨h1.older h, h2, RRs.older h h3⟩
theorem RRs.fresh : ∀ {vs : List V} {rs : List R} {w : V}, RRs M Z1 H1 env1 σ H0 vs rs → w ∈ news vs rs → ∃ a, w = .ref a ∧ H0 a = none
  | [], [], _, _, h => by cases h
  | v :: vs, r :: rs, w, ⟨h1, h2, h3⟩, h => by
    cases r with
    | val d => exact RRs.fresh h3 h
    | «at» i => exact RRs.fresh h3 h
    | liv i => exact RRs.fresh h3 h
    | new xs =>
      rcases List.mem_cons.mp h with e | h
      · obtain ⟨a, ws, f1, f2, f3, f4, f5, f6⟩ := h1
        exact ⟨a, e.trans f1, f5⟩
      · exact RRs.fresh h3 h
theorem RRs.length : ∀ {vs : List V} {rs : List R}, RRs M Z1 H1 env1 σ H0 vs rs → vs.length = rs.length
  | [], [], _ => rfl
  | v :: vs, r :: rs, ⟨h1, h2, h3⟩ => by rw [List.length_cons, List.length_cons, RRs.length h3]
end
section
variable {X : Cx} {W : WX}
abbrev mc (X : Cx) : MC := ⟨X.K, X.mg, X.prog, X.w⟩
def DE (W : WX) (X : Cx) (e : Expr) (f : SE) : Prop := PE X e (tE (mc X) W f)
def DT (W : WX) (X : Cx) (e : Expr) (f : SB) : Prop := PT X e (tT (mc X) W f)
def DA (W : WX) (X : Cx) (es : List Expr) (f : SL) : Prop := PA X es (tL (mc X) W f)
theorem weakE {e : Expr} {t t' : TE} (p : PE X e t) (h : ∀ σ H Q, t' σ H Q → t σ H Q) : PE X e t' := ⟨fun pins s σ H Q I q => p.run pins s σ H Q I (h σ H Q q)⟩
theorem weakT {e : Expr} {t t' : TT} (p : PT X e t) (h : ∀ σ H Q, t' σ H Q → t σ H Q) : PT X e t' := ⟨fun pins s σ H Q I q => p.run pins s σ H Q I (h σ H Q q)⟩
theorem weakW {e : Expr} {t t' : TT} (p : PW X e t) (h : ∀ σ H Q, t' σ H Q → t σ H Q) : PW X e t' := ⟨fun wh pins s σ H Q I q => p.run wh pins s σ H Q I (h σ H Q q)⟩
theorem weakA {e : List Expr} {t t' : TA} (p : PA X e t) (h : ∀ σ H Q, t' σ H Q → t σ H Q) : PA X e t' := ⟨fun po pins s σ H Q I q => p.run po pins s σ H Q I (h σ H Q q)⟩
theorem weakS {e : Stmt} {t t' : TS} (p : PS X e t) (h : ∀ D σ H, t' D σ H → t D σ H) : PS X e t' := ⟨fun pins s σ H D I q => p.run pins s σ H D I (h D σ H q)⟩
theorem weakSs {e : List Stmt} {t t' : TS} (p : PSs X e t) (h : ∀ D σ H, t' D σ H → t D σ H) : PSs X e t' := ⟨fun pins s σ H D I q => p.run pins s σ H D I (h D σ H q)⟩
/-! ### names, constants -/
def vVar (i : Nat) : SE := fun env => match env[i]? with
  | some (.val d) => .ok (.val d) env
  | some .hole => .bad
  | some (.wld _) => .bad
  | some _ => .ok (.at i) env
  | none => .bad
theorem de_var (i : Nat) {x : Str} {pos : Pos} (hN : X.N[i]? = some x := by rfl) (hv : Vis X.env.scope x := by first | exact Or.inl rfl | exact Or.inr (Or.inl rfl) | exact Or.inr (Or.inr rfl)) (hd : (x == ("__debug__" : Str)) = false := by decide)
    (hcd : (x == ("__classdict__" : Str)) = false := by decide) : DE W X (.Name x pos) (vVar i) := by
  refine weakE (pe_var (i := i) hN hv hd hcd) fun σ H Q ⟨Z, env, r, h⟩ => ?_
  unfold vVar at h
  split at h
  · rename_i d e
    obtain ⟨v, e1, q⟩ := r.val i d e
    exact ⟨v, e1, h Z H (.refl r) v q⟩
  · exact h.elim
  · exact h.elim
  · rename_i s _ _ _ e
    have hs : ∃ xs, s.cel? = some xs := by
      cases s with
      | hole => exact absurd rfl (by assumption)
      | val d => exact absurd rfl (by rename_i n _ _; exact n d)
      | wld S => exact absurd rfl (by rename_i n; exact n S)
      | own xs => exact ⟨xs, rfl⟩
      | pin xs => exact ⟨xs, rfl⟩
      | lent xs => exact ⟨xs, rfl⟩
      | dic _ xs => exact ⟨xs, rfl⟩
      | dit ks xs => exact ⟨_, rfl⟩
    obtain ⟨xs, hs⟩ := hs
    obtain ⟨a, vs, e1, e2, e3, e4⟩ := r.lst i s xs e hs
    exact ⟨.ref a, e1, h Z H (.refl r) _ e1⟩
  · exact h.elim
def vC (d : D) : SE := fun env => .ok (.val d) env
theorem de_c {e : Expr} {v : V} {d : D} (p : PE X e (tC v)) (h : ∀ Z, Rp (mc X) Z v d) : DE W X e (vC d) :=
  weakE p fun σ H Q ⟨Z, env, r, q⟩ => q Z H (.refl r) v (h Z)
theorem de_int {i j pos} : DE W X (.Constant (.int i) j pos) (vC (.int i)) := de_c pe_int fun _ => .int _
theorem de_bl {i j pos} : DE W X (.Constant (.bool i) j pos) (vC (.bl i)) := de_c pe_bl fun _ => .bl _
theorem de_non {j pos} : DE W X (.Constant .none j pos) (vC .non) := de_c pe_non fun _ => .non
theorem de_str {i j pos} : DE W X (.Constant (.str i) j pos) (vC (.str i)) := de_c pe_str fun _ => .str _
/-! ### two in a row -/
theorem two_ok {s1 s2 : SE} {M : MC} {σ : SV} {Z H : Hp} {env : Ev} {α : Type} {k : R → R → Ev → Out α} {G : α → Ev → Hp → Hp → Prop} {P : V → V → Hp → Prop} (rep : Rep M Z H env σ)
    (h : Post M W Z H env σ ((s1 env).bind fun r1 e1 => (s2 e1).bind fun r2 e2 => k r1 r2 e2) G)
    (fin : ∀ r1 r2 e2 v1 v2 Z2 H2, Aft M Z H env σ Z2 H2 e2 σ → RR M Z2 H2 e2 σ H v1 r1 → RR M Z2 H2 e2 σ H v2 r2 → Post M W Z2 H2 e2 σ (k r1 r2 e2) G → P v1 v2 H2) :
    tE M W s1 σ H fun v1 H1 => tE M W s2 σ H1 fun v2 H2 => P v1 v2 H2 := by
  refine ⟨Z, env, rep, h.bind.mono fun r1 e1 Z1 H1 x1 p v1 rr1 => ⟨Z1, e1, x1.rep, p.bind.mono fun r2 e2 Z2 H2 x2 p2 v2 rr2 => ?_⟩⟩
  exact fin r1 r2 e2 v1 v2 Z2 H2 (x1.trans x2) (rr1.stay x2) (rr2.older x1.alive) p2
/-! ### operators by values -/
def RN (M : MC) (Z' H' H : Hp) (v : V) : R → Prop
  | .val d => Rp M Z' v d
  | .new xs => ∃ (a : Addr) (vs : List V), v = .ref a ∧ H' a = some (.lst vs) ∧ Z' a = none ∧ Rps M Z' vs xs ∧ H a = none
  | .at _ => False
  | .liv _ => False
theorem RN.rr {M : MC} {Z H Z' H' H0 : Hp} {env : Ev} {σ : SV} {v : V} {r : R} (q : RN M Z' H' H v r) (rep : Rep M Z H env σ) (h0 : ∀ a, H0 a ≠ none → H a ≠ none) : RR M Z' H' env σ H0 v r := by
  cases r with
  | val d => exact q
  | new xs =>
    obtain ⟨a, vs, e1, e2, e3, e4, e5⟩ := q
    refine ⟨a, vs, e1, e2, e3, e4, ?_, fun z => z.ne rep e5⟩
    cases z : H0 a with
    | none => rfl
    | some o => exact absurd e5 (h0 a (by rw [z]; simp))
  | «at» i => exact q.elim
  | liv i => exact q.elim
def OpD (M : MC) (r : R2) (g : D → D → Option R) : Prop := ∀ (Z H : Hp) (x y : V) (dx dy : D) (res : R) (Q : VK), Sub Z H → Now M Z H x dx → Now M Z H y dy → g dx dy = some res →
  (∀ v Z' H', Grow Z H Z' H' → RN M Z' H' H v res → Q v H') → r x y H Q
def vBin (g : D → D → Option R) (s1 s2 : SE) : SE := fun env => (s1 env).bind fun r1 e1 => (s2 e1).bind fun r2 e2 => match r1.read e2, r2.read e2 with
  | some a, some b => match g a b with
    | some r => .ok r e2
    | none => .bad
  | _, _ => .bad
theorem bin_ok {M : MC} {r : R2} {g : D → D → Option R} {s1 s2 : SE} (hg : OpD M r g) {σ : SV} {H : Hp} {Q : VK} (h : tE M W (vBin g s1 s2) σ H Q) : tOp r (tE M W s1) (tE M W s2) σ H Q := by
  obtain ⟨Z, env, rep, h⟩ := h
  refine two_ok rep h fun r1 r2 e2 v1 v2 Z2 H2 x2 rr1 rr2 p => ?_
  cases q1 : r1.read e2 with
  | none => simp only [q1] at p; exact p.elim
  | some a =>
    cases q2 : r2.read e2 with
    | none => simp only [q1, q2] at p; exact p.elim
    | some b =>
      simp only [q1, q2] at p
      cases q3 : g a b with
      | none => rw [q3] at p; exact p.elim
      | some res =>
        rw [q3] at p
        refine hg Z2 H2 v1 v2 a b res Q x2.rep.sub (rr1.now x2.rep q1) (rr2.now x2.rep q2) q3 fun v Z3 H3 gr rn => ?_
        exact p.okG x2.rep gr v (rn.rr x2.rep x2.alive)
theorem de_op {op : Operator} {r : R2} {g : D → D → Option R} {a b : Expr} {s1 s2 : SE} {pos : Pos} (ho : OpR X (binaryOp op) r) (hg : OpD (mc X) r g) (ha : DE W X a s1) (hb : DE W X b s2) : DE W X (.BinOp a op b pos) (vBin g s1 s2) :=
  weakE (pe_op ho ha hb) fun _ _ _ h => bin_ok hg h
theorem de_cmp {op : CmpOp} {r : R2} {g : D → D → Option R} {a b : Expr} {s1 s2 : SE} {pos : Pos} (ho : OpR X (compareOp op) r) (hg : OpD (mc X) r g) (ha : DE W X a s1) (hb : DE W X b s2) (hm : behindInMarks op b = false := by first | exact nomark _ | rfl) :
    DE W X (.Compare a [op] [b] pos) (vBin g s1 s2) :=
  weakE (pe_cmpR ho ha hb hm) fun _ _ _ h => bin_ok hg h
theorem de_ix {r : R2} {g : D → D → Option R} {a b : Expr} {s1 s2 : SE} {pos : Pos} (ho : IxR X r) (hg : OpD (mc X) r g) (ha : DE W X a s1) (hb : DE W X b s2) (hs : PlainIx b := by exact fun _ _ => rfl) : DE W X (.Subscript a b pos) (vBin g s1 s2) :=
  weakE (pe_ix ho ha hb hs) fun _ _ _ h => bin_ok hg h
def vUn (g : D → Option R) (s1 : SE) : SE := fun env => (s1 env).bind fun r1 e1 => match r1.read e1 with
  | some a => match g a with
    | some r => .ok r e1
    | none => .bad
  | _ => .bad
/-! ### arguments -/
def vNil : SL := fun env => .ok [] env
def vCons (s : SE) (t : SL) : SL := fun env => (s env).bind fun r e1 => (t e1).bind fun rs e2 => .ok (r :: rs) e2
theorem da_nil : DA W X [] vNil := weakA pa_nil fun _ _ _ ⟨_, _, r, h⟩ => h _ _ (.refl r) [] trivial
theorem cons_ok {M : MC} {s : SE} {t : SL} {σ : SV} {H : Hp} {Q : List V → Hp → Prop} (h : tL M W (vCons s t) σ H Q) : tCons (tE M W s) (tL M W t) σ H Q := by
  obtain ⟨Z, env, rep, h⟩ := h
  refine ⟨Z, env, rep, h.bind.mono fun r1 e1 Z1 H1 x1 p v1 rr1 => ⟨Z1, e1, x1.rep, p.bind.mono fun rs e2 Z2 H2 x2 p2 vs rrs => ?_⟩⟩
  refine p2.ok x2.rep (v1 :: vs) ⟨rr1.stay x2, fun hn hm => ?_, rrs.older x1.alive⟩
  obtain ⟨a, ea, ha⟩ := rrs.fresh hm
  cases r1 with
  | val d => cases hn
  | «at» i => cases hn
  | liv i => cases hn
  | new xs =>
    obtain ⟨b, ws, f1, f2, _⟩ := rr1
    rw [ea] at f1
    cases f1
    rw [ha] at f2
    cases f2
theorem da_cons {e : Expr} {es : List Expr} {s : SE} {t : SL} (ha : DE W X e s) (hr : DA W X es t) (hs : starEach (e :: es) X.env = (false, eval e X.env) :: starEach es X.env := by rfl) : DA W X (e :: es) (vCons s t) :=
  weakA (pa_cons ha hr hs) fun _ _ _ h => cons_ok h
/-! ### built-ins by values -/
def reads : List R → Ev → Option (List D)
  | [], _ => some []
  | r :: rs, e => match r.read e, reads rs e with
    | some d, some ds => some (d :: ds)
    | _, _ => none
def Nows (M : MC) (Z H : Hp) : List V → List D → Prop
  | [], [] => True
  | v :: vs, d :: ds => Now M Z H v d ∧ Nows M Z H vs ds
  | _, _ => False
theorem RRs.nows {M : MC} {Z H H0 : Hp} {env : Ev} {σ : SV} (rep : Rep M Z H env σ) : ∀ {vs : List V} {rs : List R} {ds : List D}, RRs M Z H env σ H0 vs rs → reads rs env = some ds → Nows M Z H vs ds
  | [], [], ds, _, e => by cases e; trivial
  | v :: vs, r :: rs, ds, ⟨h1, h2, h3⟩, e => by
    unfold reads at e
    cases q1 : r.read env with
    | none => rw [q1] at e; cases e
    | some d =>
      cases q2 : reads rs env with
      | none => rw [q1, q2] at e; cases e
      | some ds' =>
        rw [q1, q2] at e
        cases e
        exact ⟨h1.now rep q1, RRs.nows rep h3 q2⟩
def CallD (M : MC) (r : List V → Hp → VK → Prop) (g : List D → Option R) : Prop := ∀ (Z H : Hp) (xs : List V) (ds : List D) (res : R) (Q : VK), Sub Z H → Nows M Z H xs ds → g ds = some res →
  (∀ v Z' H', Grow Z H Z' H' → RN M Z' H' H v res → Q v H') → r xs H Q
def vCB (g : List D → Option R) (t : SL) : SE := fun env => (t env).bind fun rs e => match reads rs e with
  | some ds => match g ds with
    | some r => .ok r e
    | none => .bad
  | none => .bad
theorem cb_ok {M : MC} {r : List V → Hp → VK → Prop} {g : List D → Option R} {t : SL} (hg : CallD M r g) {σ : SV} {H : Hp} {Q : VK} (h : tE M W (vCB g t) σ H Q) : tCB r (tL M W t) σ H Q := by
  obtain ⟨Z, env, rep, h⟩ := h
  refine ⟨Z, env, rep, h.bind.mono fun rs e1 Z1 H1 x1 p vs rrs => ?_⟩
  cases q1 : reads rs e1 with
  | none => simp only [q1] at p; exact p.elim
  | some ds =>
    simp only [q1] at p
    cases q3 : g ds with
    | none => rw [q3] at p; exact p.elim
    | some res =>
      rw [q3] at p
      refine hg Z1 H1 vs ds res Q x1.rep.sub (rrs.nows x1.rep q1) q3 fun v Z3 H3 gr rn => ?_
      exact p.okG x1.rep gr v (rn.rr x1.rep x1.alive)
theorem de_callB {x : Str} {id : String} {r : List V → Hp → VK → Prop} {g : List D → Option R} {e : Expr} {es : List Expr} {t : SL} {p pos : Pos} (hc : CallR X (.builtin id) r) (hg : CallD (mc X) r g) (hm : X.mg x = none) (ha : DA W X (e :: es) t)
    (hgl : Gl X x := by rfl) (hv : bootBuiltins x = some (.builtin id) := by decide +kernel) (hn : x ≠ "__name__" := by decide) (hdb : (x == ("__debug__" : Str)) = false := by decide)
    (he : starEach (e :: es) X.env = (false, eval e X.env) :: starEach es X.env := by rfl) (hpl : (backTo pos (starEach es X.env)).any (·.1) = false := by rfl) : DE W X (.Call (.Name x p) (e :: es) [] pos) (vCB g t) :=
  weakE (pe_callB hc hgl hm hv ha hn hdb he hpl) fun _ _ _ h => cb_ok hg h
theorem de_callTy {x : Str} {T : String} {r : List V → Hp → VK → Prop} {g : List D → Option R} {e : Expr} {es : List Expr} {t : SL} {p pos : Pos} (hc : CallR X (.type T) r) (hg : CallD (mc X) r g) (hm : X.mg x = none) (ha : DA W X (e :: es) t)
    (hgl : Gl X x := by rfl) (hv : bootBuiltins x = some (.type T) := by decide +kernel) (hn : x ≠ "__name__" := by decide) (hdb : (x == ("__debug__" : Str)) = false := by decide)
    (he : starEach (e :: es) X.env = (false, eval e X.env) :: starEach es X.env := by rfl) (hpl : (backTo pos (starEach es X.env)).any (·.1) = false := by rfl) : DE W X (.Call (.Name x p) (e :: es) [] pos) (vCB g t) :=
  weakE (pe_callTy hc hgl hm hv ha hn hdb he hpl) fun _ _ _ h => cb_ok hg h
/-! ### displays -/
def escs : List R → Ev → Option (List D × Ev)
  | [], e => some ([], e)
  | r :: rs, e => match r.esc e with
    | some (d, e1) => match escs rs e1 with
      | some (ds, e2) => some (d :: ds, e2)
      | none => none
    | none => none
theorem RR.stayE {M : MC} {Z H Z' H0 Hb : Hp} {env env' : Ev} {σ : SV} {v : V} {r : R} (q : RR M Z H env σ H0 v r) (y : AftE M Hb Z H env σ Z' env') (rep : Rep M Z H env σ) (hz : ∀ a, v = .ref a → r.isNew = true → Z' a = Z a) : RR M Z' H env' σ H0 v r := by
  cases r with
  | val d => exact Rp.mono y.sub q
  | new xs =>
    obtain ⟨p, vs, e1, e2, e3, e4, e5, e6⟩ := q
    refine ⟨p, vs, e1, e2, (hz p e1 rfl).trans e3, e4.mono y.sub, e5, fun z => e6 ?_⟩
    obtain ⟨i, s, xs', f1, f2, f3⟩ := z
    rcases Sl.mut_or f2 with w | w
    · exact (y.owned p ⟨i, s, xs', f1, w, f3⟩).listy
    · subst w
      exact ⟨i, _, xs', (y.lents i xs').mpr f1, f2, f3⟩
  | «at» i => exact q
  | liv i =>
    obtain ⟨a, e1, e2⟩ := q
    exact ⟨a, e1, y.sub _ _ e2⟩
/-- .. which addresses of lists become frozen by an escape -/
theorem RR.escape2 {M : MC} {Z H H0 : Hp} {env env' : Ev} {σ : SV} {v : V} {r : R} {d : D} (q : RR M Z H env σ H0 v r) (rep : Rep M Z H env σ) (h0 : ∀ a, H0 a ≠ none → H a ≠ none) (e : r.esc env = some (d, env')) :
    ∃ Z', Rp M Z' v d ∧ AftE M H0 Z H env σ Z' env' ∧ ∀ b, ¬ Listy env σ b → (r.isNew = true → v ≠ .ref b) → Z' b = Z b := by
  cases r with
  | val d' =>
    cases e
    exact ⟨Z, q, .refl rep, fun _ _ _ => rfl⟩
  | new xs =>
    obtain ⟨Z', h1, h2⟩ := RR.escape q rep h0 e
    cases e
    obtain ⟨p, vs, e1, e2, e3, e4, e5, e6⟩ := q
    subst e1
    refine ⟨upd Z p (.lst vs), .lst upd_same (e4.mono (same_frz e3)), ⟨rep.frzmore e2 e3 e6, same_frz e3, fun a h1 h2 => ?_, fun _ h => h, fun _ _ _ => .rfl, fun _ _ => .rfl, fun _ _ => .rfl, fun a n e => ?_⟩, fun b h1 h2 => ?_⟩
    · have : a ≠ p := fun z => by rw [z] at h1; exact h1 e5
      exact upd_ne this
    · by_cases z : a = p
      · subst z; rw [upd_same] at e; cases e
      · rw [upd_ne z] at e; exact e
    · exact upd_ne fun z => h2 rfl (by rw [z])
  | «at» i =>
    have q : σ[i]? = some (some v) := q
    unfold R.esc at e
    simp only at e
    split at e
    · rename_i d' h
      cases e
      obtain ⟨w, e1, e2⟩ := rep.val i _ h
      rw [q] at e1
      cases e1
      exact ⟨Z, e2, .refl rep, fun _ _ _ => rfl⟩
    · rename_i xs h
      cases e
      obtain ⟨p, vs, e1, e2, e3, e4, x⟩ := rep.freeze h
      rw [q] at e1
      cases e1
      have hi : i < env.length := (List.getElem?_eq_some_iff.mp h).1
      refine ⟨_, e4, .of_aft x (fun j s hs => ?_) h0 (fun a ho => ?_) (fun j S => ?_) (fun a n e => ?_), fun b h1 h2 => ?_⟩
      · by_cases hj : i = j
        · subst hj
          rw [List.getElem?_set_self hi, h]
          constructor
          · intro z; cases z; cases hs
          · intro z; cases z; cases hs
        · rw [List.getElem?_set_ne hj]
      · obtain ⟨j, s, ys, f1, f2, f3⟩ := ho
        by_cases hj : i = j
        · subst hj
          rw [List.getElem?_set_self hi] at f1
          cases f1; cases f2
        · rw [List.getElem?_set_ne hj] at f1
          exact ⟨j, s, ys, f1, f2, f3⟩
      · by_cases hj : i = j
        · subst hj
          rw [List.getElem?_set_self hi, h]
          constructor
          · intro z; cases z
          · intro z; cases z
        · rw [List.getElem?_set_ne hj]
      · by_cases z : a = p
        · subst z; rw [upd_same] at e; cases e
        · rw [upd_ne z] at e; exact e
      · refine upd_ne fun z => h1 ⟨i, _, xs, h, rfl, by rw [z]; exact q⟩
    · cases e
  | liv n =>
    cases e
    obtain ⟨a, e1, e2⟩ := q
    subst e1
    exact ⟨Z, .ref e2, .refl rep, fun _ _ _ => rfl⟩
theorem RRs.stayE {M : MC} {Z H Z' H0 Hb : Hp} {env env' : Ev} {σ : SV} (y : AftE M Hb Z H env σ Z' env') (rep : Rep M Z H env σ) : ∀ {vs : List V} {rs : List R}, RRs M Z H env σ H0 vs rs → (∀ a, V.ref a ∈ news vs rs → Z' a = Z a) → RRs M Z' H env' σ H0 vs rs
  | [], [], _, _ => trivial
  | v :: vs, r :: rs, ⟨h1, h2, h3⟩, k => by
    refine ⟨h1.stayE y rep fun a e n => ?_, h2, RRs.stayE y rep h3 fun a ha => ?_⟩
    · cases r with
      | val _ => cases n
      | «at» _ => cases n
      | liv _ => cases n
      | new xs => exact k a (by rw [← e]; exact List.mem_cons_self)
    · cases r with
      | val _ => exact k a ha
      | «at» _ => exact k a ha
      | liv _ => exact k a ha
      | new xs => exact k a (List.mem_cons_of_mem _ ha)
theorem RRs.unlisty {M : MC} {Z H H0 : Hp} {env : Ev} {σ : SV} : ∀ {vs : List V} {rs : List R} {a : Addr}, RRs M Z H env σ H0 vs rs → V.ref a ∈ news vs rs → ¬ Listy env σ a
  | [], [], a, _, h => by cases h
  | v :: vs, r :: rs, a, ⟨h1, h2, h3⟩, h => by
    cases r with
    | val d => exact RRs.unlisty h3 h
    | «at» i => exact RRs.unlisty h3 h
    | liv i => exact RRs.unlisty h3 h
    | new xs =>
      rcases List.mem_cons.mp h with e | h
      · obtain ⟨p, ws, f1, f2, f3, f4, f5, f6⟩ := h1
        rw [← e] at f1
        cases f1
        exact f6
      · exact RRs.unlisty h3 h
theorem RRs.escape {M : MC} {H H0 : Hp} {σ : SV} (h0 : ∀ a, H0 a ≠ none → H a ≠ none) : ∀ {vs : List V} {rs : List R} {ds : List D} {Z : Hp} {env env' : Ev}, RRs M Z H env σ H0 vs rs → Rep M Z H env σ → escs rs env = some (ds, env') → ∃ Z', Rps M Z' vs ds ∧ AftE M H0 Z H env σ Z' env'
  | [], [], ds, Z, env, env', _, rep, e => by cases e; exact ⟨Z, .nil, .refl rep⟩
  | v :: vs, r :: rs, ds, Z, env, env', ⟨h1, h2, h3⟩, rep, e => by
    unfold escs at e
    cases q1 : r.esc env with
    | none => rw [q1] at e; cases e
    | some p =>
      obtain ⟨d, e1⟩ := p
      rw [q1] at e
      simp only at e
      cases q2 : escs rs e1 with
      | none => rw [q2] at e; cases e
      | some p2 =>
        obtain ⟨ds', e2⟩ := p2
        rw [q2] at e
        cases e
        obtain ⟨Z1, r1, y1, k1⟩ := RR.escape2 h1 rep h0 q1
        have h3' : RRs M Z1 H e1 σ H0 vs rs := RRs.stayE y1 rep h3 fun a ha => k1 a (RRs.unlisty h3 ha) fun n z => h2 n (by rw [z]; exact ha)
        obtain ⟨Z2, r2, y2⟩ := RRs.escape h0 h3' y1.rep q2
        exact ⟨Z2, .cons (r1.mono y2.sub) r2, y1.trans y2⟩
def LIM : Nat := 1000000
theorem lim_line {n : Nat} (h : n ≤ LIM) : n ≤ sizeLine := by rw [show sizeLine = 2 ^ 24 from rfl]; unfold LIM at h; omega
theorem lim_lt {n : Nat} (h : n < LIM) : n < sizeLine := by rw [show sizeLine = 2 ^ 24 from rfl]; unfold LIM at h; omega
def vTup (t : SL) : SE := fun env => (t env).bind fun rs e => match escs rs e with
  | some (ds, e1) => if ds.length ≤ LIM then .ok (.val (.tup ds)) e1 else .bad
  | none => .bad
def vLst (t : SL) : SE := fun env => (t env).bind fun rs e => match escs rs e with
  | some (ds, e1) => if ds.length ≤ LIM then .ok (.new ds) e1 else .bad
  | none => .bad
def tTupF (t : TA) : TE := fun σ H Q => t σ H fun xs H1 => xs.length ≤ sizeLine ∧ ∀ (p : Addr) (o : Obj), H1 p = none → o.dict = none → Q (.ref p) (upd H1 p (.frz o (.tup xs)))
theorem pe_tupF {X : Cx} {es : List Expr} {k : Nat} {t : TA} {pos : Pos} (h : PA X es t) : PE X (.Tuple es k pos) (tTupF t) := by
  refine ⟨fun pins s σ H Q I hq => ?_⟩
  refine wpAny_Tuple_spliced (thn (h.run pos pins s σ H _ I hq) fun us s1 ⟨xs, H1, I1, r, z, q⟩ => ⟨by rw [← r.length]; exact z, ?_⟩)
  have hf : H1 s1.heap.objs.size = none := I1.hok.fresh (Nat.le_refl _)
  refine ⟨.ref s1.heap.objs.size, upd H1 s1.heap.objs.size (.frz { cls := .type "tuple", data := .seq us.toArray } (.tup xs)), I1.laid (t' := s1.toks) (fun b u e => Heap.get?_push_of_some _ e) (Nat.le_refl _) ?_, rfl, q _ _ hf rfl⟩
  exact ⟨Heap.get?_push_size _ rfl, z, us, r, ⟨_, Heap.get?_push_size _ rfl, rfl, _, rfl⟩⟩
theorem tup_ok {M : MC} {σ : SV} {H : Hp} {Q : VK} {t : SL} (h : tE M W (vTup t) σ H Q) : tTupF (tL M W t) σ H Q := by
  obtain ⟨Z, env, rep, h⟩ := h
  refine ⟨Z, env, rep, h.bindB.mono fun rs e Z1 H1 x1 p vs rrs => ?_⟩
  cases q : escs rs e with
  | none => rw [q] at p; exact p.elim
  | some dd =>
    obtain ⟨ds, e1⟩ := dd
    rw [q] at p
    simp only at p
    obtain ⟨Z2, r2, y2⟩ := RRs.escape x1.alive rrs x1.rep q
    by_cases hl : ds.length ≤ LIM
    · rw [if_pos hl] at p
      refine ⟨by rw [r2.length]; exact lim_line hl, fun a o ha hd => ?_⟩
      have g := Grow.frz (o := .frz o (.tup vs)) y2.rep.sub ha
      exact p _ _ ((x1.escaped y2).trans (y2.rep.grow g)) (.ref a) (.tup (.inl ⟨o, upd_same, hd⟩) (r2.mono g.sub))
    · rw [if_neg hl] at p; exact p.elim
theorem lst_ok {M : MC} {σ : SV} {H : Hp} {Q : VK} {t : SL} (h : tE M W (vLst t) σ H Q) : tLst (tL M W t) σ H Q := by
  obtain ⟨Z, env, rep, h⟩ := h
  refine ⟨Z, env, rep, h.bindB.mono fun rs e Z1 H1 x1 p vs rrs => ?_⟩
  cases q : escs rs e with
  | none => rw [q] at p; exact p.elim
  | some dd =>
    obtain ⟨ds, e1⟩ := dd
    rw [q] at p
    simp only at p
    obtain ⟨Z2, r2, y2⟩ := RRs.escape x1.alive rrs x1.rep q
    by_cases hl : ds.length ≤ LIM
    · rw [if_pos hl] at p
      refine ⟨by rw [r2.length]; exact lim_line hl, fun a ha => ?_⟩
      have g := Grow.own (o := .lst vs) y2.rep.sub ha
      refine p _ _ ((x1.escaped y2).trans (y2.rep.grow g)) (.ref a) ⟨a, vs, rfl, upd_same, none_of_sub y2.rep.sub ha, r2.mono g.sub, ?_, fun z => z.ne y2.rep ha⟩
      cases z : H a with
      | none => rfl
      | some o => exact absurd ha (x1.alive a (by rw [z]; simp))
    · rw [if_neg hl] at p; exact p.elim
theorem de_tup {es : List Expr} {x1} {t : SL} {pos : Pos} (h : DA W X es t) : DE W X (.Tuple es x1 pos) (vTup t) := weakE (pe_tupF h) fun _ _ _ h => tup_ok h
theorem de_lst {es : List Expr} {t : SL} {pos : Pos} (h : DA W X es t) : DE W X (.List es pos) (vLst t) := weakE (pe_lst h) fun _ _ _ h => lst_ok h
/-! ### tests -/
def bRead (o : Out R) : Out Bool := o.bind fun r e => match r.read e with
  | some (.bl b) => .ok b e
  | _ => .bad
/-- an expression that gives a truth, as a test -/
def bVal (s : SE) : SB := fun env => bRead (s env)
theorem Now.bl {M : MC} {Z H : Hp} {v : V} {b : Bool} (h : Now M Z H v (.bl b)) : v = .bl b := by
  rcases h with h | ⟨a, vs, xs, _, e, _⟩
  · cases h; rfl
  · cases e
theorem Now.int {M : MC} {Z H : Hp} {v : V} {b : Int} (h : Now M Z H v (.int b)) : v = .int b := by
  rcases h with h | ⟨a, vs, xs, _, e, _⟩
  · cases h; rfl
  · cases e
theorem Now.str {M : MC} {Z H : Hp} {v : V} {b : Str} (h : Now M Z H v (.str b)) : v = .str b := by
  rcases h with h | ⟨a, vs, xs, _, e, _⟩
  · cases h; rfl
  · cases e
theorem Now.non {M : MC} {Z H : Hp} {v : V} (h : Now M Z H v .non) : v = .non := by
  rcases h with h | ⟨a, vs, xs, _, e, _⟩
  · cases h; rfl
  · cases e
theorem Now.tup {M : MC} {Z H : Hp} {v : V} {ds : List D} (h : Now M Z H v (.tup ds)) (s : Sub Z H) : ∃ a vs, v = .ref a ∧ SqT M.K H a vs ∧ TupK M.K Z a vs ∧ Rps M Z vs ds := by
  rcases h with h | ⟨a, vs, xs, _, e, _⟩
  · cases h with
    | tup h r => exact ⟨_, _, rfl, seqT s.th h.seq, h, r⟩
  · cases e
theorem Now.lst {M : MC} {Z H : Hp} {v : V} {ds : List D} (h : Now M Z H v (.lst ds)) (s : Sub Z H) : ∃ a vs, v = .ref a ∧ H a = some (.lst vs) ∧ Rps M Z vs ds := by
  rcases h with h | ⟨a, vs, xs, e1, e, e2, e3⟩
  · cases h with
    | lst h r => exact ⟨_, _, rfl, s.th _ _ h rfl, r⟩
  · cases e; exact ⟨a, vs, e1, e2, e3⟩
theorem Now.scr {M : MC} {Z H : Hp} {v : V} {ds : List D} (h : Now M Z H v (.scr ds)) (s : Sub Z H) : ∃ a vs, v = .ref a ∧ SqL M.K H a vs ∧ Rps M Z vs ds := by
  rcases h with h | ⟨a, vs, xs, e1, e, e2, e3⟩
  · cases h with
    | scr h r => exact ⟨_, _, rfl, seqL s.th h, r⟩
  · cases e
theorem Now.obj {M : MC} {Z H : Hp} {v : V} {c : Str} {ks : List Str} {ds : List D} (h : Now M Z H v (.obj c ks ds)) (s : Sub Z H) : ∃ a C dx vs, v = .ref a ∧ H a = some (.ins C dx (ks.zip vs)) ∧ Z a = some (.ins C dx (ks.zip vs)) ∧ M.mg c = some (.ref C) ∧ ks.length = vs.length ∧ Rps M Z vs ds := by
  rcases h with h | ⟨a, vs, xs, e1, e, e2, e3⟩
  · cases h with
    | obj h m l r => exact ⟨_, _, _, _, rfl, s.th _ _ h rfl, h, m, l, r⟩
  · cases e
theorem bval_ok {M : MC} {s : SE} {σ : SV} {H : Hp} {Q : Bool → Hp → Prop} (h : tT M W (bVal s) σ H Q) : tE M W s σ H fun x H' => ∃ k, x = .bl k ∧ Q k H' := by
  obtain ⟨Z, env, rep, h⟩ := h
  refine ⟨Z, env, rep, h.bind.mono fun r e Z1 H1 x1 p v rr => ?_⟩
  cases q : r.read e with
  | none => rw [q] at p; exact p.elim
  | some d =>
    rw [q] at p
    cases d with
    | bl b => exact ⟨b, (rr.now x1.rep q).bl, p.ok x1.rep⟩
    | _ => exact p.elim
theorem dt_val {e : Expr} {s : SE} (h : DE W X e s) (he : ∀ whole, isTrue e X.env whole = (do let v ← whole; standAt e.pos; holding [v] (truthy v)) := by intro _; rfl) : DT W X e (bVal s) :=
  weakT (pt_val h he) fun _ _ _ h => bval_ok h
theorem dt_cmp {op : CmpOp} {r : R2} {g : D → D → Option R} {a b : Expr} {s1 s2 : SE} {pos : Pos} (ho : OpR X (compareOp op) r) (hg : OpD (mc X) r g) (ha : DE W X a s1) (hb : DE W X b s2) (hm : behindInMarks op b = false := by first | exact nomark _ | rfl) :
    DT W X (.Compare a [op] [b] pos) (bVal (vBin g s1 s2)) := by
  refine weakT (pt_cmpR ho ha hb hm) fun σ H Q h => ?_
  have h2 := bval_ok h
  exact bin_ok hg h2
/-- and, or, not -/
def bAnd (s t : SB) : SB := fun env => (s env).bind fun b e => if b then t e else .ok false e
def bOr (s t : SB) : SB := fun env => (s env).bind fun b e => if b then .ok true e else t e
def bNot (s : SB) : SB := fun env => (s env).bind fun b e => .ok (!b) e
def DW (W : WX) (X : Cx) (e : Expr) (f : SB) : Prop := PW X e (tT (mc X) W f)
theorem DW.dt {e : Expr} {f : SB} (h : DW W X e f) : DT W X e f := PW.pt h
theorem dw_and1 {a : Expr} {s : SB} {pos : Pos} (ha : DT W X a s) : DW W X (.BoolOp .And [a] pos) s := pw_and1 ha
theorem dw_or1 {a : Expr} {s : SB} {pos : Pos} (ha : DT W X a s) : DW W X (.BoolOp .Or [a] pos) s := pw_or1 ha
theorem dw_and {a b : Expr} {rest : List Expr} {s t : SB} {pos : Pos} (ha : DT W X a s) (hb : DW W X (.BoolOp .And (b :: rest) pos) t) : DW W X (.BoolOp .And (a :: b :: rest) pos) (bAnd s t) := by
  refine weakW (pw_and ha hb) fun σ H Q ⟨Z, env, rep, h⟩ => ⟨Z, env, rep, h.bind.mono fun b e Z1 H1 x1 p => ?_⟩
  cases b with
  | true => exact ⟨Z1, e, x1.rep, p⟩
  | false => exact p.ok x1.rep
theorem dw_or {a b : Expr} {rest : List Expr} {s t : SB} {pos : Pos} (ha : DT W X a s) (hb : DW W X (.BoolOp .Or (b :: rest) pos) t) : DW W X (.BoolOp .Or (a :: b :: rest) pos) (bOr s t) := by
  refine weakW (pw_or ha hb) fun σ H Q ⟨Z, env, rep, h⟩ => ⟨Z, env, rep, h.bind.mono fun b e Z1 H1 x1 p => ?_⟩
  cases b with
  | true => exact p.ok x1.rep
  | false => exact ⟨Z1, e, x1.rep, p⟩
/-- as values -/
def vAnd (s t : SE) : SE := fun env => (bRead (s env)).bind fun b e => if b then t e else .ok (.val (.bl false)) e
def vOr (s t : SE) : SE := fun env => (bRead (s env)).bind fun b e => if b then .ok (.val (.bl true)) e else t e
def vNot (s : SE) : SE := fun env => (bRead (s env)).bind fun b e => .ok (.val (.bl (!b))) e
def vIf (c : SB) (s t : SE) : SE := fun env => (c env).bind fun b e => if b then s e else t e
/-- a < b < c -/
def vChain (g g' : D → D → Option R) (s1 s2 s3 : SE) : SE := fun env => (s1 env).bind fun r1 e1 => (s2 e1).bind fun r2 e2 => match r1.read e2, r2.read e2 with
  | some a, some b => match g a b with
    | some (.val (.bl true)) => (s3 e2).bind fun r3 e3 => match r2.read e3, r3.read e3 with
      | some b', some c => match g' b' c with
        | some r => .ok r e3
        | none => .bad
      | _, _ => .bad
    | some (.val (.bl false)) => .ok (.val (.bl false)) e2
    | _ => .bad
  | _, _ => .bad
end
end DV
namespace DV
open PySem PySem.Spec L2
section
variable {X : Cx} {W : WX}
end
/-! ### statements -/
inductive Fl where
  | nx | rt (r : R) | bk | ct
abbrev SS := Ev → Out Fl
/-- a returned result -/
def RT (M : MC) (Z' H' : Hp) (e : Ev) (σ' : SV) (H : Hp) (v : V) : R → Prop
  | .val d => Rp M Z' v d
  | .new xs => ∃ (a : Addr) (vs : List V), v = .ref a ∧ H' a = some (.lst vs) ∧ Z' a = none ∧ Rps M Z' vs xs ∧ ((H a = none ∧ ¬ Listy e σ' a) ∨ ∃ i : Nat, e[i]? = some (.own xs) ∧ σ'[i]? = some (some (V.ref a)))
  | .at _ => False
  | .liv _ => False
def PostS (M : MC) (W : WX) (Z H : Hp) (env : Ev) (σ : SV) (o : Out Fl) (D : Ends) : Prop := match o with
  | .ok .nx e => ∀ σ' Z' H', Aft M Z H env σ Z' H' e σ' → D.nx σ' H'
  | .ok (.rt r) e => ∀ v σ' Z' H', Aft M Z H env σ Z' H' e σ' → RT M Z' H' e σ' H v r → D.rt v H'
  | .ok .bk e => ∀ σ' Z' H', Aft M Z H env σ Z' H' e σ' → D.bk σ' H'
  | .ok .ct e => ∀ σ' Z' H', Aft M Z H env σ Z' H' e σ' → D.ct σ' H'
  | .exn x e => ∀ cv d σ' Z' H', Aft M Z H env σ Z' H' e σ' → XR M Z' H' cv d x → W cv d σ' H'
  | .bad => False
def tS (M : MC) (W : WX) (f : SS) : TS := fun D σ H => ∃ Z env, Rep M Z H env σ ∧ PostS M W Z H env σ (f env) D
section
variable {M : MC} {W : WX} {Z H Z' H' Z1 H1 Z2 H2 H0 : Hp} {env env' env1 env2 : Ev} {σ σ' σ1 σ2 : SV} {v : V} {d : D} {r : R} {a : Addr} {D : Ends}
theorem RT.older (q : RT M Z' H' env' σ' H0 v r) (h : ∀ a, H a ≠ none → H0 a ≠ none) : RT M Z' H' env' σ' H v r := by
  cases r with
  | val d => exact q
  | new xs =>
    obtain ⟨p, vs, e1, e2, e3, e4, e5⟩ := q
    refine ⟨p, vs, e1, e2, e3, e4, ?_⟩
    rcases e5 with ⟨e5, e6⟩ | e5
    · refine .inl ⟨?_, e6⟩
      cases z : H p with
      | none => rfl
      | some o => exact absurd e5 (h p (by rw [z]; simp))
    · exact .inr e5
  | «at» i => exact q
  | liv i => exact q
theorem PostS.rel {o : Out Fl} (x : Aft M Z H env σ Z1 H1 env1 σ1) (h : PostS M W Z H env σ o D) : PostS M W Z1 H1 env1 σ1 o D := by
  cases o with
  | ok f e =>
    cases f with
    | nx => exact fun σ' Z' H' y => h σ' Z' H' (x.trans y)
    | rt r => exact fun v σ' Z' H' y q => h v σ' Z' H' (x.trans y) (q.older x.alive)
    | bk => exact fun σ' Z' H' y => h σ' Z' H' (x.trans y)
    | ct => exact fun σ' Z' H' y => h σ' Z' H' (x.trans y)
  | exn x' e => exact fun cv d σ' Z' H' y => h cv d σ' Z' H' (x.trans y)
  | bad => exact h
def sSeq (s t : SS) : SS := fun env => match s env with
  | .ok .nx e => t e
  | o => o
def sNil : SS := fun env => .ok .nx env
theorem PostS.seq {s t : SS} (h : PostS M W Z H env σ (sSeq s t env) D) : PostS M W Z H env σ (s env) { D with nx := tS M W t D } := by
  unfold sSeq at h
  cases q : s env with
  | ok f e =>
    rw [q] at h
    cases f with
    | nx => exact fun σ' Z' H' y => ⟨Z', e, y.rep, PostS.rel y h⟩
    | rt r => exact h
    | bk => exact h
    | ct => exact h
  | exn x e => rw [q] at h; exact h
  | bad => rw [q] at h; exact h
/-- from an expression -/
theorem PostS.bind {α : Type} {o : Out α} {k : α → Ev → Out Fl} (h : PostS M W Z H env σ (o.bind k) D) : Post M W Z H env σ o fun a e Z1 H1 => PostS M W Z H env σ (k a e) D := by
  cases o with
  | ok a e => exact fun Z1 H1 x => h
  | exn x e => exact fun cv d Z' H' y => h cv d σ Z' H' y
  | bad => exact h
end
section
variable {X : Cx} {W : WX}
def DS (W : WX) (X : Cx) (st : Stmt) (f : SS) : Prop := PS X st (tS (mc X) W f)
def DSs (W : WX) (X : Cx) (st : List Stmt) (f : SS) : Prop := PSs X st (tS (mc X) W f)
theorem dss_nil : DSs W X [] sNil := weakSs pss_nil fun D σ H ⟨Z, env, rep, h⟩ => h _ _ _ (.refl rep)
theorem dss_cons {st : Stmt} {rest : List Stmt} {s t : SS} (h1 : DS W X st s) (h2 : DSs W X rest t) : DSs W X (st :: rest) (sSeq s t) :=
  weakSs (pss_cons h1 h2) fun D σ H ⟨Z, env, rep, h⟩ => ⟨Z, env, rep, h.seq⟩
theorem dss_one {st : Stmt} {s : SS} (h1 : DS W X st s) : DSs W X [st] s := pss_one h1
def sBrk : SS := fun env => .ok .bk env
def sCnt : SS := fun env => .ok .ct env
/-- an expression's value dropped -/
def sDrop (s : SE) : SS := fun env => (s env).bind fun _ e => .ok .nx e
theorem ds_expr {e : Expr} {s : SE} {pos : Pos} (h : DE W X e s) (hs : swapsWith e none pos.line X.env = pure false := by rfl) : DS W X (.Expr e pos) (sDrop s) :=
  weakS (ps_expr h hs) fun D σ H ⟨Z, env, rep, h⟩ => ⟨Z, env, rep, h.bind.mono fun r e Z1 H1 x1 p v rr => p _ _ _ x1⟩
def sIf (c : SB) (s t : SS) : SS := fun env => (c env).bind fun b e => if b then s e else t e
theorem ds_if {c : Expr} {a b : List Stmt} {sc : SB} {s t : SS} {pos : Pos} (hc : DT W X c sc) (ha : DSs W X a s) (hb : DSs W X b t) : DS W X (.If c a b pos) (sIf sc s t) := by
  refine weakS (ps_if hc ha hb) fun D σ H ⟨Z, env, rep, h⟩ => ⟨Z, env, rep, h.bind.mono fun b e Z1 H1 x1 p => ?_⟩
  cases b with
  | true => exact ⟨Z1, e, x1.rep, PostS.rel x1 p⟩
  | false => exact ⟨Z1, e, x1.rep, PostS.rel x1 p⟩
/-- return -/
def retR (r : R) (e : Ev) : Out Fl := match r with
  | .at i => match e[i]? with
    | some (.own xs) => .ok (.rt (.new xs)) e
    | some (.val d) => .ok (.rt (.val d)) e
    | _ => .bad
  | .liv n => .ok (.rt (.val (.ref n))) e
  | r => .ok (.rt r) e
def sRet (s : SE) : SS := fun env => (s env).bind retR
def sRetN : SS := fun env => .ok (.rt (.val .non)) env
theorem ds_ret {e : Expr} {s : SE} {pos : Pos} (h : DE W X e s) : DS W X (.Return (some e) pos) (sRet s) := by
  refine weakS (ps_ret h) fun D σ H ⟨Z, env, rep, h⟩ => ⟨Z, env, rep, h.bind.mono fun r e Z1 H1 x1 p v rr => ?_⟩
  cases r with
  | val d => exact p v σ Z1 H1 x1 rr
  | new xs =>
    obtain ⟨a, vs, e1, e2, e3, e4, e5, e6⟩ := rr
    exact p v σ Z1 H1 x1 ⟨a, vs, e1, e2, e3, e4, .inl ⟨e5, e6⟩⟩
  | «at» i =>
    have rr : σ[i]? = some (some v) := rr
    unfold retR at p
    simp only at p
    split at p
    · rename_i xs q
      obtain ⟨a, vs, e1, e2, e3, e4⟩ := x1.rep.lst i _ xs q rfl
      rw [rr] at e1
      cases e1
      exact p _ σ Z1 H1 x1 ⟨a, vs, rfl, e2, e3, e4, .inr ⟨i, q, rr⟩⟩
    · rename_i d q
      obtain ⟨w, e1, e2⟩ := x1.rep.val i d q
      rw [rr] at e1
      cases e1
      exact p _ σ Z1 H1 x1 e2
    · exact p.elim
  | liv n =>
    obtain ⟨a, e1, e2⟩ := rr
    subst e1
    exact p _ σ Z1 H1 x1 (.ref e2)
/-! ### stores -/
def Sl.free? : Sl → Bool
  | .pin _ => false
  | .lent _ => false
  | .wld _ => false
  | _ => true
def freeAt (e : Ev) (i : Nat) : Bool := match e[i]? with
  | some s => s.free?
  | none => false
/-- a result comes to a slot -/
def stv (i : Nat) (r : R) (e : Ev) : Option Ev := if freeAt e i then (match r with
  | .new xs => some (e.set i (.own xs))
  | r => match r.esc e with
    | some (d, e1) => some (e1.set i (.val d))
    | none => none) else none
theorem freeAt_some {e : Ev} {i : Nat} (h : freeAt e i = true) : ∃ s, e[i]? = some s ∧ s.free? = true := by
  unfold freeAt at h
  split at h
  · rename_i s q; exact ⟨s, q, h⟩
  · cases h
variable {M : MC} {Z H Z' H' Z1 H1 Z2 H2 H0 : Hp} {env env' env1 env2 : Ev} {σ σ' σ1 σ2 : SV} {v : V} {d : D} {r : R} {a : Addr}
/-- a frozen value comes to a free slot -/
theorem Aft.store_val {i : Nat} (x : Aft M Z H env σ Z1 H1 env1 σ1) (hf : freeAt env1 i = true) (h : Rp M Z1 v d) : Aft M Z H env σ Z1 H1 (env1.set i (.val d)) (σ1.set i (some v)) := by
  obtain ⟨s0, hs0, hfr⟩ := freeAt_some hf
  have hi : i < env1.length := (List.getElem?_eq_some_iff.mp hs0).1
  refine ⟨x.rep.val_set h, x.sub, x.kept, x.alive, fun a ho => ?_, fun j s h1 h2 => ?_, fun j s h1 h2 => ?_, fun j xs h1 => ?_, fun j xs h1 => ?_, x.wk.set (fun S e => by rw [hs0] at e; cases e; cases hfr) rfl⟩
  · obtain ⟨j, s, ys, f1, f2, f3⟩ := ho
    by_cases hj : i = j
    · subst hj
      rw [List.getElem?_set_self hi] at f1
      cases f1; cases f2
    · rw [List.getElem?_set_ne hj] at f1 f3
      exact x.owned a ⟨j, s, ys, f1, f2, f3⟩
  · obtain ⟨e1, s', h', p'⟩ := x.pins j s h1 h2
    have hj : i ≠ j := fun z => by
      subst z
      rw [hs0] at h'; cases h'
      cases s0 with
      | pin _ => cases hfr
      | _ => cases p'
    rw [List.getElem?_set_ne hj, List.getElem?_set_ne hj]
    exact ⟨e1, s', h', p'⟩
  · by_cases hj : i = j
    · subst hj
      rw [List.getElem?_set_self hi] at h1
      cases h1; cases h2
    · rw [List.getElem?_set_ne hj] at h1
      exact x.unpin j s h1 h2
  · obtain ⟨e1, h'⟩ := x.lents j xs h1
    have hj : i ≠ j := fun z => by
      subst z
      rw [hs0] at h'; cases h'; cases hfr
    rw [List.getElem?_set_ne hj, List.getElem?_set_ne hj]
    exact ⟨e1, h'⟩
  · by_cases hj : i = j
    · subst hj
      rw [List.getElem?_set_self hi] at h1
      cases h1
    · rw [List.getElem?_set_ne hj] at h1
      exact x.unlent j xs h1
/-- a new list comes to a free slot -/
theorem Aft.store_own {i : Nat} {vs : List V} {xs : List D} (x : Aft M Z H env σ Z1 H1 env1 σ1) (hf : freeAt env1 i = true) (h1 : H1 a = some (.lst vs)) (h2 : Z1 a = none) (h3 : Rps M Z1 vs xs) (h4 : H a = none) (h5 : ¬ Listy env1 σ1 a) :
    Aft M Z H env σ Z1 H1 (env1.set i (.own xs)) (σ1.set i (some (.ref a))) := by
  obtain ⟨s0, hs0, hfr⟩ := freeAt_some hf
  have hi : i < env1.length := (List.getElem?_eq_some_iff.mp hs0).1
  have hi' : i < σ1.length := by rw [← x.rep.len]; exact hi
  have notin : ∀ (j : Nat) (s : Sl) (ys : List D), env1[j]? = some s → s.cel? = some ys → σ1[j]? ≠ some (some (V.ref a)) := fun j s ys f1 f2 f3 => h5 ⟨j, s, ys, f1, f2, f3⟩
  refine ⟨⟨by rw [List.length_set, List.length_set]; exact x.rep.len, x.rep.sub, fun j d' e => ?_, fun j s ys e1 e2 => ?_, fun j k sj sk xj xk b e1 e2 e3 e4 e5 e6 => ?_, fun j S e => x.rep.wld j S (w_of_set rfl e), fun j k S T e1 e2 => x.rep.wone j k S T (w_of_set rfl e1) (w_of_set rfl e2)⟩, x.sub, x.kept, x.alive, fun b ho => ?_, fun j s h1 h2 => ?_, fun j s h1 h2 => ?_, fun j xs h1 => ?_, fun j xs h1 => ?_, x.wk.set (fun S e => by rw [hs0] at e; cases e; cases hfr) rfl⟩
  · by_cases hj : i = j
    · subst hj
      rw [List.getElem?_set_self hi] at e
      cases e
    · rw [List.getElem?_set_ne hj] at e ⊢
      exact x.rep.val j d' e
  · by_cases hj : i = j
    · subst hj
      rw [List.getElem?_set_self hi] at e1
      cases e1
      cases e2
      exact ⟨a, vs, List.getElem?_set_self hi', h1, h2, h3⟩
    · rw [List.getElem?_set_ne hj] at e1 ⊢
      exact x.rep.lst j s ys e1 e2
  · by_cases hj : i = j
    · subst hj
      rw [List.getElem?_set_self hi'] at e5
      cases e5
      by_cases hk : i = k
      · exact hk
      · rw [List.getElem?_set_ne hk] at e2 e6
        exact absurd e6 (notin k sk xk e2 e4)
    · by_cases hk : i = k
      · subst hk
        rw [List.getElem?_set_self hi'] at e6
        cases e6
        rw [List.getElem?_set_ne hj] at e1 e5
        exact absurd e5 (notin j sj xj e1 e3)
      · rw [List.getElem?_set_ne hj] at e1 e5
        rw [List.getElem?_set_ne hk] at e2 e6
        exact x.rep.apart j k sj sk xj xk b e1 e2 e3 e4 e5 e6
  · obtain ⟨j, s, ys, f1, f2, f3⟩ := ho
    by_cases hj : i = j
    · subst hj
      rw [List.getElem?_set_self hi'] at f3
      cases f3
      exact .inr h4
    · rw [List.getElem?_set_ne hj] at f1 f3
      exact x.owned b ⟨j, s, ys, f1, f2, f3⟩
  · obtain ⟨e1, s', h', p'⟩ := x.pins j s h1 h2
    have hj : i ≠ j := fun z => by
      subst z
      rw [hs0] at h'; cases h'
      cases s0 with
      | pin _ => cases hfr
      | _ => cases p'
    rw [List.getElem?_set_ne hj, List.getElem?_set_ne hj]
    exact ⟨e1, s', h', p'⟩
  · by_cases hj : i = j
    · subst hj
      rw [List.getElem?_set_self hi] at h1
      cases h1; cases h2
    · rw [List.getElem?_set_ne hj] at h1
      exact x.unpin j s h1 h2
  · obtain ⟨e1, h'⟩ := x.lents j xs h1
    have hj : i ≠ j := fun z => by
      subst z
      rw [hs0] at h'; cases h'; cases hfr
    rw [List.getElem?_set_ne hj, List.getElem?_set_ne hj]
    exact ⟨e1, h'⟩
  · by_cases hj : i = j
    · subst hj
      rw [List.getElem?_set_self hi] at h1
      cases h1
    · rw [List.getElem?_set_ne hj] at h1
      exact x.unlent j xs h1
theorem esc_free {r : R} {e e1 : Ev} {d : D} {i : Nat} (h : r.esc e = some (d, e1)) (hf : freeAt e i = true) : freeAt e1 i = true := by
  cases r with
  | val d => cases h; exact hf
  | new d => cases h; exact hf
  | liv d => cases h; exact hf
  | «at» j =>
    unfold R.esc at h
    simp only at h
    split at h
    · cases h; exact hf
    · rename_i xs q
      cases h
      by_cases hj : j = i
      · subst hj
        unfold freeAt
        rw [List.getElem?_set_self (List.getElem?_eq_some_iff.mp q).1]
        rfl
      · unfold freeAt
        rw [List.getElem?_set_ne hj]
        exact hf
    · cases h
theorem stv_ok {i : Nat} (x : Aft M Z H env σ Z1 H1 env1 σ) (rr : RR M Z1 H1 env1 σ H v r) (e : stv i r env1 = some env2) : ∃ Z2, Aft M Z H env σ Z2 H1 env2 (σ.set i (some v)) := by
  unfold stv at e
  by_cases hf : freeAt env1 i = true
  · rw [if_pos hf] at e
    cases r with
    | new xs =>
      cases e
      obtain ⟨a, vs, e1, e2, e3, e4, e5, e6⟩ := rr
      subst e1
      exact ⟨Z1, x.store_own hf e2 e3 e4 e5 e6⟩
    | val d =>
      cases e
      exact ⟨Z1, x.store_val hf rr⟩
    | liv n =>
      cases e
      obtain ⟨a, e1, e2⟩ := rr
      subst e1
      exact ⟨Z1, x.store_val hf (.ref e2)⟩
    | «at» j =>
      simp only at e
      cases q : R.esc (.at j) env1 with
      | none => rw [q] at e; cases e
      | some p =>
        obtain ⟨d, e1⟩ := p
        rw [q] at e
        cases e
        obtain ⟨Z2, r2, y2⟩ := RR.escape rr x.rep x.alive q
        exact ⟨Z2, (x.escaped y2).store_val (esc_free q hf) r2⟩
  · rw [if_neg hf] at e; cases e
def sSet (i : Nat) (s : SE) : SS := fun env => (s env).bind fun r e1 => match stv i r e1 with
  | some e2 => .ok .nx e2
  | none => .bad
theorem set_ok {i : Nat} {s : SE} {D : Ends} (h : tS M W (sSet i s) D σ H) : tAsg (tE M W s) (gName i) D σ H := by
  obtain ⟨Z, env, rep, h⟩ := h
  refine ⟨Z, env, rep, h.bind.mono fun r e Z1 H1 x1 p v rr => ?_⟩
  cases q : stv i r e with
  | none => rw [q] at p; exact p.elim
  | some e2 =>
    rw [q] at p
    obtain ⟨Z2, x2⟩ := stv_ok x1 rr q
    exact p _ _ _ x2
theorem ds_set (i : Nat) {x : Str} {e : Expr} {s : SE} {pos pos' : Pos} (nd : X.N.Nodup) (he : DE W X e s) (hi : X.N[i]? = some x := by rfl) (hx : Loc X.env.scope x := by first | exact Or.inl rfl | exact Or.inr rfl) (hs : swapsWith e (some (.Name x pos')) pos.line X.env = pure false := by rfl) (hf : X.fn x = true ∨ X.env.scope.names.lookup x = some .local := by first | exact .inl rfl | exact .inr rfl | assumption) :
    DS W X (.Assign [.Name x pos'] e pos) (sSet i s) :=
  weakS (ps_set (i := i) nd hi hx he hs hf) fun D σ H h => set_ok h
end
end DV
namespace DV
open PySem PySem.Spec L2
/-! ### targets -/
abbrev GT := D → Ev → Option Ev
def gNm (i : Nat) : GT := fun d e => if freeAt e i then some (e.set i (.val d)) else none
def gAll : List GT → List D → Ev → Option Ev
  | [], [], e => some e
  | g :: gs, d :: ds, e => match g d e with
    | some e1 => gAll gs ds e1
    | none => none
  | _, _, _ => none
def gTp (gs : List GT) : GT := fun d e => match d with
  | .tup ds => gAll gs ds e
  | .lst ds => gAll gs ds e
  | _ => none
/-- the slots beside ts are as they were -/
def Beside (ts : List Nat) (σ σ' : SV) : Prop := ∀ ws : List Nat, (∀ t ∈ ts, t ∈ ws) → wipe σ' ws = wipe σ ws
theorem wipe_comm {σ : SV} {i : Nat} {o : Option V} : ∀ {ws : List Nat}, i ∉ ws → wipe (σ.set i o) ws = (wipe σ ws).set i o
  | [], _ => rfl
  | w :: ws, h => by
    show (wipe (σ.set i o) ws).set w none = ((wipe σ ws).set w none).set i o
    rw [wipe_comm (fun z => h (List.mem_cons_of_mem _ z)), List.set_comm _ _ (fun z => h (by rw [z]; exact List.mem_cons_self))]
theorem wipe_set {σ : SV} {i : Nat} {o : Option V} : ∀ {ws : List Nat}, i ∈ ws → wipe (σ.set i o) ws = wipe σ ws
  | w :: ws, h => by
    show (wipe (σ.set i o) ws).set w none = (wipe σ ws).set w none
    by_cases hm : i ∈ ws
    · rw [wipe_set hm]
    · have e : i = w := (List.mem_cons.mp h).elim id fun z => absurd z hm
      rw [wipe_comm hm, e, List.set_set]
theorem Beside.refl {ts : List Nat} {σ : SV} : Beside ts σ σ := fun _ _ => rfl
def tG (M : MC) (g : GT) (ts : List Nat) : TG := fun v σ H Q => ∃ Z env d e', Rep M Z H env σ ∧ Rp M Z v d ∧ g d env = some e' ∧ ∀ σ', Aft M Z H env σ Z H e' σ' → Beside ts σ σ' → Q σ' H
def tGs (M : MC) (gs : List GT) (ts : List Nat) : TGs := fun vs σ H Q => ∃ Z env ds e', Rep M Z H env σ ∧ Rps M Z vs ds ∧ gAll gs ds env = some e' ∧ ∀ σ', Aft M Z H env σ Z H e' σ' → Beside ts σ σ' → Q σ' H
def DG (X : Cx) (t : Expr) (g : GT) (ts : List Nat) : Prop := PG X t (tG (mc X) g ts)
def DGs (X : Cx) (t : List Expr) (g : List GT) (ts : List Nat) : Prop := PGs X t (tGs (mc X) g ts)
section
variable {X : Cx}
theorem weakG {e : Expr} {t t' : TG} (p : PG X e t) (h : ∀ v σ H Q, t' v σ H Q → t v σ H Q) : PG X e t' := ⟨fun pins s σ H v u Q I r q => p.run pins s σ H v u Q I r (h v σ H Q q)⟩
theorem weakGs {e : List Expr} {t t' : TGs} (p : PGs X e t) (h : ∀ v σ H Q, t' v σ H Q → t v σ H Q) : PGs X e t' := ⟨fun pins s σ H v u Q I r q => p.run pins s σ H v u Q I r (h v σ H Q q)⟩
theorem PG.or {e : Expr} {t t' : TG} (p : PG X e t) (p' : PG X e t') : PG X e (fun v σ H Q => t v σ H Q ∨ t' v σ H Q) :=
  ⟨fun pins s σ H v u Q I r q => q.elim (p.run pins s σ H v u Q I r) (p'.run pins s σ H v u Q I r)⟩
theorem dg_name (i : Nat) {x : Str} {pos : Pos} (nd : X.N.Nodup) (hi : X.N[i]? = some x := by rfl) (hx : Loc X.env.scope x := by first | exact Or.inl rfl | exact Or.inr rfl) (hf : X.fn x = true ∨ X.env.scope.names.lookup x = some .local := by first | exact .inl rfl | exact .inr rfl | assumption) : DG X (.Name x pos) (gNm i) [i] := by
  refine weakG (pg_name (i := i) nd hi hx hf) fun v σ H Q ⟨Z, env, d, e', rep, rp, h, q⟩ => ?_
  unfold gNm at h
  by_cases hf : freeAt env i = true
  · rw [if_pos hf] at h
    cases h
    exact q _ ((Aft.refl rep).store_val hf rp) fun ws hw => wipe_set (hw i List.mem_cons_self)
  · rw [if_neg hf] at h; cases h
theorem dgs_nil : DGs X [] [] [] := by
  refine weakGs pgs_nil fun vs σ H Q ⟨Z, env, ds, e', rep, rp, h, q⟩ => ?_
  cases rp with
  | nil => cases h; exact ⟨rfl, q _ (.refl rep) .refl⟩
  | cons _ _ => cases h
theorem dgs_cons {e : Expr} {es : List Expr} {g : GT} {gs : List GT} {t1 t2 : List Nat} (h1 : DG X e g t1) (h2 : DGs X es gs t2) (hs : (assignEach (e :: es) X.env).map (·.2) = assign e X.env :: (assignEach es X.env).map (·.2) := by rfl) : DGs X (e :: es) (g :: gs) (t1 ++ t2) := by
  refine weakGs (pgs_cons h1 h2 hs) fun vs σ H Q ⟨Z, env, ds, e', rep, rp, h, q⟩ => ?_
  cases rp with
  | nil => cases h
  | @cons v d vs ds r rs =>
    unfold gAll at h
    cases q1 : g d env with
    | none => rw [q1] at h; cases h
    | some e1 =>
      rw [q1] at h
      exact ⟨v, vs, rfl, Z, env, d, e1, rep, r, q1, fun σ1 x1 b1 => ⟨Z, e1, ds, e', x1.rep, rs, h, fun σ2 x2 b2 => q σ2 (x1.trans x2) fun ws hw => (b2 ws fun t ht => hw t (List.mem_append_right _ ht)).trans (b1 ws fun t ht => hw t (List.mem_append_left _ ht))⟩⟩
theorem gAll_len : ∀ {gs : List GT} {ds : List D} {e e' : Ev}, gAll gs ds e = some e' → ds.length = gs.length
  | [], [], _, _, _ => rfl
  | g :: gs, d :: ds, e, e', h => by
    unfold gAll at h
    split at h
    · rw [List.length_cons, List.length_cons, gAll_len h]
    · cases h
  | [], _ :: _, _, _, h => by cases h
  | _ :: _, [], _, _, h => by cases h
theorem dg_tup {es : List Expr} {k : Nat} {pos : Pos} {gs : List GT} {ts : List Nat} (hc : X.calm = true) (h : DGs X es gs ts) (hn : (assignEach es X.env).length = gs.length := by rfl) (hst : (assignEach es X.env).findIdx? (·.1) = none := by rfl) : DG X (.Tuple es k pos) (gTp gs) ts := by
  refine weakG (PG.or (pg_tup hc h hn hst) (pg_lst hc h hn hst)) fun v σ H Q ⟨Z, env, d, e', rep, rp, h, q⟩ => ?_
  unfold gTp at h
  cases rp with
  | @tup a vs ds hs rs =>
    refine .inl ⟨a, vs, rfl, seqT rep.sub.th hs.seq, rs.length.trans (gAll_len h), Z, env, ds, e', rep, rs, h, q⟩
  | @lst a vs ds hs rs =>
    refine .inr ⟨a, vs, rfl, .inl (.inl (rep.sub.th _ _ hs rfl)), rs.length.trans (gAll_len h), Z, env, ds, e', rep, rs, h, q⟩
  | _ => cases h
end
section
variable {X : Cx} {W : WX}
/-- a target of any form gets an expression's value -/
def sAsg (g : GT) (s : SE) : SS := fun env => (s env).bind fun r e => match r.esc e with
  | some (d, e1) => match g d e1 with
    | some e2 => .ok .nx e2
    | none => .bad
  | none => .bad
end
/-! ### a list is lent while it is walked -/
structure IT where
  items : List D
  src : List Nat
def lendO (src : Option Nat) (e : Ev) : Ev := match src with
  | none => e
  | some i => match e[i]? with
    | some (.own xs) => e.set i (.lent xs)
    | some (.pin xs) => e.set i (.lent xs)
    | _ => e
def unlendO (src : Option Nat) (e0 e : Ev) : Ev := match src with
  | none => e
  | some i => match e0[i]? with
    | some (.own xs) => e.set i (.own xs)
    | some (.pin xs) => e.set i (.pin xs)
    | _ => e
section
variable {M : MC} {W : WX} {Z H Z' H' Z1 H1 Z2 H2 H0 : Hp} {env env' env1 env2 : Ev} {σ σ' σ1 σ2 : SV} {v : V} {d : D} {r : R} {a : Addr} {D : Ends}
/-- two environments whose slots hold the same, perhaps under other leave -/
structure Alike (e e' : Ev) : Prop where
  len : e'.length = e.length
  val : ∀ (i : Nat) (d : DV.D), e'[i]? = some (.val d) → e[i]? = some (.val d)
  lst : ∀ (i : Nat) (s : Sl) (xs : List DV.D), e'[i]? = some s → s.cel? = some xs → ∃ s', e[i]? = some s' ∧ s'.cel? = some xs ∧ s'.ho = s.ho
  wld : ∀ (i : Nat) (S : List DV.D), e'[i]? = some (.wld S) → e[i]? = some (.wld S)
theorem Rep.alike (r : Rep M Z H env σ) (k : Alike env env') : Rep M Z H env' σ :=
  ⟨k.len.trans r.len, r.sub, fun i d h => r.val i d (k.val i d h), fun i s xs h1 h2 => by
    obtain ⟨s', f1, f2, f3⟩ := k.lst i s xs h1 h2
    rw [← f3]
    exact r.lst i s' xs f1 f2, fun i j si sj xi xj a h1 h2 h3 h4 h5 h6 => by
    obtain ⟨s1, f1, f2, _⟩ := k.lst i si xi h1 h3
    obtain ⟨s2, f3, f4, _⟩ := k.lst j sj xj h2 h4
    exact r.apart i j s1 s2 xi xj a f1 f3 f2 f4 h5 h6, fun i S h => r.wld i S (k.wld i S h), fun i j S T h1 h2 => r.wone i j S T (k.wld i S h1) (k.wld j T h2)⟩
theorem alike_set {i : Nat} {s s' : Sl} {xs : List DV.D} (h : env[i]? = some s) (h1 : s.cel? = some xs) (h2 : s'.cel? = some xs) (h3 : s.ho = s'.ho := by rfl) : Alike env (env.set i s') := by
  have hi : i < env.length := (List.getElem?_eq_some_iff.mp h).1
  refine ⟨List.length_set .., fun j d e => ?_, fun j t ys e1 e2 => ?_, fun j S e => w_of_set (by cases s' <;> first | rfl | cases h2) e⟩
  · by_cases hj : i = j
    · subst hj
      rw [List.getElem?_set_self hi] at e
      cases e
      cases h2
    · rw [List.getElem?_set_ne hj] at e; exact e
  · by_cases hj : i = j
    · subst hj
      rw [List.getElem?_set_self hi] at e1
      cases e1
      rw [h2] at e2
      cases e2
      exact ⟨s, h, h1, h3⟩
    · rw [List.getElem?_set_ne hj] at e1; exact ⟨t, e1, e2, rfl⟩
theorem Sl.ho_mut {s : Sl} {xs : List DV.D} (h : s.mut? = some xs) : s.ho = (Sl.lent xs).ho := by
  cases s <;> first | rfl | cases h
/-- one slot lent, given back -/
theorem Aft.lent_back {i : Nat} {s : Sl} {xs : List DV.D} (r : Rep M Z H env σ) (h : env[i]? = some s) (hm0 : s.mut? = some xs) (x : Aft M Z H (env.set i (.lent xs)) σ Z' H' env' σ') : Aft M Z H env σ Z' H' (env'.set i s) σ' := by
  have hi : i < env.length := (List.getElem?_eq_some_iff.mp h).1
  have hm := (Sl.mc_of_mut hm0).1
  have hl := Sl.lst_of_mut hm
  obtain ⟨ei, hi'⟩ := x.lents i xs (List.getElem?_set_self hi)
  have hi2 : i < env'.length := (List.getElem?_eq_some_iff.mp hi').1
  have own0 : ∀ b, Owned (env.set i (.lent xs)) σ b → Owned env σ b := fun b ⟨j, t, ys, f1, f2, f3⟩ => by
    by_cases hj : i = j
    · subst hj
      rw [List.getElem?_set_self hi] at f1
      cases f1; cases f2
    · rw [List.getElem?_set_ne hj] at f1
      exact ⟨j, t, ys, f1, f2, f3⟩
  refine ⟨x.rep.alike (alike_set hi' rfl hl (Sl.ho_mut hm0).symm), x.sub, fun b h1 h2 h3 => x.kept b h1 (fun z => h2 (own0 b z)) h3, x.alive, fun b ho => ?_, fun j t h1 h2 => ?_, fun j t h1 h2 => ?_, fun j ys h1 => ?_, fun j ys h1 => ?_, (WK.mk (fun j S e => x.wk.has j S (by rw [List.getElem?_set_ne (fun z => by subst z; rw [h] at e; cases e; cases hm0)]; exact e)) (fun j S e => by obtain ⟨T, hT⟩ := x.wk.was j S e; exact ⟨T, w_of_set rfl hT⟩) (fun n => x.wk.tags fun j S e => n j S (w_of_set rfl e)) (fun n => x.wk.kept fun j S e => n j S (w_of_set rfl e)) : WK Z H env Z' H' env').set (fun S e => by rw [hi'] at e; cases e) (by cases s <;> first | rfl | cases hm0)⟩
  · obtain ⟨j, t, ys, f1, f2, f3⟩ := ho
    by_cases hj : i = j
    · subst hj
      rw [ei] at f3
      exact .inl ⟨i, s, xs, h, hm, f3⟩
    · rw [List.getElem?_set_ne hj] at f1
      rcases x.owned b ⟨j, t, ys, f1, f2, f3⟩ with z | z
      · exact .inl (own0 b z)
      · exact .inr z
  · by_cases hj : i = j
    · subst hj
      rw [h] at h1
      cases h1
      exact ⟨ei, s, List.getElem?_set_self hi2, h2⟩
    · obtain ⟨e1, s', h', p'⟩ := x.pins j t (by rw [List.getElem?_set_ne hj]; exact h1) h2
      rw [List.getElem?_set_ne hj]
      exact ⟨e1, s', h', p'⟩
  · by_cases hj : i = j
    · subst hj
      rw [List.getElem?_set_self hi2] at h1
      cases h1
      exact ⟨s, h, h2⟩
    · rw [List.getElem?_set_ne hj] at h1
      obtain ⟨s', h', p'⟩ := x.unpin j t h1 h2
      rw [List.getElem?_set_ne hj] at h'
      exact ⟨s', h', p'⟩
  · have hj : i ≠ j := fun z => by
      subst z
      rw [h] at h1; cases h1; cases hm
    rw [List.getElem?_set_ne hj]
    exact x.lents j ys (by rw [List.getElem?_set_ne hj]; exact h1)
  · by_cases hj : i = j
    · subst hj
      rw [List.getElem?_set_self hi2] at h1
      cases h1; cases hm
    · rw [List.getElem?_set_ne hj] at h1
      have := x.unlent j ys h1
      rw [List.getElem?_set_ne hj] at this
      exact this
theorem lendO_rep (src : Option Nat) (r : Rep M Z H env σ) : Rep M Z H (lendO src env) σ := by
  unfold lendO
  cases src with
  | none => exact r
  | some i =>
    simp only
    split
    · rename_i xs h; exact r.alike (alike_set h rfl rfl)
    · rename_i xs h; exact r.alike (alike_set h rfl rfl)
    · exact r
theorem lendO_aft (src : Option Nat) (r : Rep M Z H env σ) (x : Aft M Z H (lendO src env) σ Z' H' env' σ') : Aft M Z H env σ Z' H' (unlendO src env env') σ' := by
  unfold lendO at x
  unfold unlendO
  cases src with
  | none => exact x
  | some i =>
    simp only at x ⊢
    split at x
    · rename_i xs h
      exact x.lent_back r h rfl
    · rename_i xs h
      exact x.lent_back r h rfl
    · exact x
theorem lendO_RT (src : Option Nat) (x : Aft M Z H (lendO src env) σ Z' H' env' σ') (q : RT M Z' H' env' σ' H v r) : RT M Z' H' (unlendO src env env') σ' H v r := by
  cases r with
  | val d => exact q
  | «at» i => exact q
  | liv i => exact q
  | new ys =>
    obtain ⟨p, vs, e1, e2, e3, e4, e5⟩ := q
    refine ⟨p, vs, e1, e2, e3, e4, ?_⟩
    have key : ∀ (i : Nat) (s : Sl) (xs : List DV.D), env[i]? = some s → s.mut? = some xs → Aft M Z H (env.set i (.lent xs)) σ Z' H' env' σ' → ((H p = none ∧ ¬ Listy env' σ' p) ∨ ∃ i : Nat, env'[i]? = some (.own ys) ∧ σ'[i]? = some (some (V.ref p))) →
        ((H p = none ∧ ¬ Listy (env'.set i s) σ' p) ∨ ∃ j : Nat, (env'.set i s)[j]? = some (.own ys) ∧ σ'[j]? = some (some (V.ref p))) := fun i s xs h hm x e5 => by
      have hi : i < env.length := (List.getElem?_eq_some_iff.mp h).1
      obtain ⟨ei, hi'⟩ := x.lents i xs (List.getElem?_set_self hi)
      rcases e5 with ⟨e5, e6⟩ | ⟨j, e5, e6⟩
      · refine .inl ⟨e5, fun ⟨j, t, zs, f1, f2, f3⟩ => e6 ?_⟩
        obtain ⟨s', g1, g2, _⟩ := (alike_set (s' := s) hi' rfl (Sl.lst_of_mut (Sl.mc_of_mut hm).1) (Sl.ho_mut hm).symm).lst j t zs f1 f2
        exact ⟨j, s', zs, g1, g2, f3⟩
      · refine .inr ⟨j, ?_, e6⟩
        have hj : i ≠ j := fun z => by subst z; rw [hi'] at e5; cases e5
        rw [List.getElem?_set_ne hj]; exact e5
    unfold lendO at x
    unfold unlendO
    cases src with
    | none => exact e5
    | some i =>
      simp only at x ⊢
      split at x
      · rename_i xs h; exact key i _ xs h rfl x e5
      · rename_i xs h; exact key i _ xs h rfl x e5
      · exact e5
def lendI : List Nat → Ev → Ev
  | [], e => e
  | i :: is, e => lendI is (lendO (some i) e)
def unlendI : List Nat → Ev → Ev → Ev
  | [], _, e => e
  | i :: is, e0, e => unlendO (some i) e0 (unlendI is (lendO (some i) e0) e)
theorem lend_rep : ∀ (src : List Nat) {env : Ev}, Rep M Z H env σ → Rep M Z H (lendI src env) σ
  | [], _, r => r
  | i :: is, _, r => lend_rep is (lendO_rep (some i) r)
theorem lend_aft : ∀ (src : List Nat) {env env' : Ev}, Rep M Z H env σ → Aft M Z H (lendI src env) σ Z' H' env' σ' → Aft M Z H env σ Z' H' (unlendI src env env') σ'
  | [], _, _, _, x => x
  | i :: is, _, _, r, x => lendO_aft (some i) r (lend_aft is (lendO_rep (some i) r) x)
theorem lend_RT : ∀ (src : List Nat) {env env' : Ev}, Rep M Z H env σ → Aft M Z H (lendI src env) σ Z' H' env' σ' → RT M Z' H' env' σ' H v r → RT M Z' H' (unlendI src env env') σ' H v r
  | [], _, _, _, _, q => q
  | i :: is, _, _, rp, x, q => lendO_RT (some i) (lend_aft is (lendO_rep (some i) rp) x) (lend_RT is (lendO_rep (some i) rp) x q)
def mapEv {α : Type} (f : Ev → Ev) : Out α → Out α
  | .ok a e => .ok a (f e)
  | .exn x e => .exn x (f e)
  | .bad => .bad
theorem PostS.lend {o : Out Fl} (src : List Nat) (r : Rep M Z H env σ) (h : PostS M W Z H env σ (mapEv (unlendI src env) o) D) : PostS M W Z H (lendI src env) σ o D := by
  cases o with
  | ok f e =>
    cases f with
    | nx => exact fun σ' Z' H' y => h σ' Z' H' (lend_aft src r y)
    | rt r' => exact fun v σ' Z' H' y q => h v σ' Z' H' (lend_aft src r y) (lend_RT src r y q)
    | bk => exact fun σ' Z' H' y => h σ' Z' H' (lend_aft src r y)
    | ct => exact fun σ' Z' H' y => h σ' Z' H' (lend_aft src r y)
  | exn x' e => exact fun cv d σ' Z' H' y => h cv d σ' Z' H' (lend_aft src r y)
  | bad => exact h
end
/-! ### what is walked -/
/-- kept but what the environment owns -/
def Kp (Z H : Hp) (env : Ev) (σ : SV) (H' : Hp) : Prop := ∀ a, H a ≠ none → ¬ Owned env σ a → (∀ n, Z a ≠ some (.own n)) → H' a = H a
structure ItD (M : MC) (J : It) (items : List D) (Z H : Hp) (env : Ev) (σ : SV) : Prop where
  ex : ∃ (G : Hp → Prop) (Y : Nat → Hp → V → Hp → Prop), Walk J items.length G Y ∧ (∀ H', Kp Z H env σ H' → G H') ∧
    ∀ (i : Nat) (Z' H' H'' : Hp) (x : V) (d : D), Same Z Z' → Sub Z' H' → items[i]? = some d → Y i H' x H'' → ∃ Z'', Grow Z' H' Z'' H'' ∧ Rp M Z'' x d
abbrev SI := Ev → Out IT
def tI (M : MC) (W : WX) (f : SI) : TI := fun σ H Rr => ∃ Z env, Rep M Z H env σ ∧ Post M W Z H env σ (f env) fun t e Z' H' => ∀ J, ItD M J t.items Z' H' (lendI t.src e) σ → Rr J H'
def DI (W : WX) (X : Cx) (tg e : Expr) (f : SI) : Prop := PI X tg e (tI (mc X) W f)
/-! ### for -/
def forL (g : GT) (b : SS) : List D → Ev → Out Fl
  | [], e => .ok .nx e
  | d :: ds, e => match g d e with
    | none => .bad
    | some e1 => match b e1 with
      | .ok .nx e2 => forL g b ds e2
      | .ok .ct e2 => forL g b ds e2
      | .ok .bk e2 => .ok .nx e2
      | .ok (.rt r) e2 => .ok (.rt r) e2
      | .exn x e2 => .exn x e2
      | .bad => .bad
def sFor (it : SI) (g : GT) (b : SS) : SS := fun env => (it env).bind fun t e => mapEv (unlendI t.src e) (forL g b t.items (lendI t.src e))
section
variable {X : Cx} {W : WX}
theorem weakI {tg e : Expr} {t t' : TI} (p : PI X tg e t) (h : ∀ σ H R, t' σ H R → t σ H R) : PI X tg e t' := ⟨fun pins s σ H R I q => p.run pins s σ H R I (h σ H R q)⟩
theorem for_ok {M : MC} {g : GT} {ts : List Nat} {b : SS} {J : It} {items : List D} {Z H : Hp} {env : Ev} {σ : SV} {D : Ends} (rep : Rep M Z H env σ) (hI : ItD M J items Z H env σ) (h : PostS M W Z H env σ (forL g b items env) D) :
    ∃ Wf : Nat → Nat → SV → Hp → Prop, (∃ m, Wf 0 m σ H) ∧ ∀ i m σ H, Wf i m σ H →
      (J.stop i H ∧ D.nx σ H) ∨ (J.go i H ∧ ∃ N : SV → Hp → Prop, (∀ σ' H', N σ' H' → ∃ m', m' < m ∧ Wf (i + 1) m' σ' H') ∧ ∀ x H', J.yld i H x H' → tG M g ts x σ H' fun σ2 H2 => tS M W b { D with nx := N, ct := N, bk := D.nx } σ2 H2) := by
  obtain ⟨G, Y, w, hG, hY⟩ := hI.ex
  refine for_it w (fun i σ1 H1 => ∃ Z1 e1, Aft M Z H env σ Z1 H1 e1 σ1 ∧ PostS M W Z H env σ (forL g b (items.drop i) e1) D) ⟨Z, env, .refl rep, h⟩ (fun i σ1 H1 _ ⟨Z1, e1, x1, _⟩ => hG H1 fun a h1 h2 h3 => (x1.kept a h1 h2 h3).1) (fun i x σ1 H1 H2 hi ⟨Z1, e1, x1, p1⟩ y => ?_) fun σ1 H1 ⟨Z1, e1, x1, p1⟩ => ?_
  · have hd : items[i]? = some items[i] := List.getElem?_eq_getElem hi
    rw [List.drop_eq_getElem_cons hi] at p1
    obtain ⟨Z2, gr, rp⟩ := hY i Z1 H1 H2 x _ x1.sub x1.rep.sub hd y
    have x2 := x1.trans (x1.rep.grow gr)
    unfold forL at p1
    cases q : g items[i] e1 with
    | none => rw [q] at p1; exact p1.elim
    | some e2 =>
      rw [q] at p1
      refine ⟨Z2, e1, _, e2, x2.rep, rp, q, fun σ3 x3 _ => ⟨Z2, e2, x3.rep, ?_⟩⟩
      have x4 := x2.trans x3
      simp only at p1
      cases q2 : b e2 with
      | ok f e3 =>
        rw [q2] at p1
        cases f with
        | nx => exact fun σ5 Z5 H5 x5 => ⟨Z5, e3, x4.trans x5, p1⟩
        | ct => exact fun σ5 Z5 H5 x5 => ⟨Z5, e3, x4.trans x5, p1⟩
        | bk => exact fun σ5 Z5 H5 x5 => p1 σ5 Z5 H5 (x4.trans x5)
        | rt r => exact fun v σ5 Z5 H5 x5 rt => p1 v σ5 Z5 H5 (x4.trans x5) (rt.older x4.alive)
      | exn xx e3 =>
        rw [q2] at p1
        exact fun cv d σ5 Z5 H5 x5 => p1 cv d σ5 Z5 H5 (x4.trans x5)
      | bad => rw [q2] at p1; exact p1.elim
  · rw [List.drop_length] at p1
    exact p1 σ1 Z1 H1 x1
theorem ds_for {tg iter : Expr} {body : List Stmt} {it : SI} {g : GT} {ts : List Nat} {b : SS} {pos : Pos} (hp : PassesOwn (model X.prog X.w) X.A X.env X.xe) (hc : X.calm = true) (hi : DI W X tg iter it) (hg : DG X tg g ts) (hb : DSs W X body b)
    (hs : ∀ x, foldedSetIterable iter X.env x = pure x := by intro _; rfl) : DS W X (.For tg iter body [] pos) (sFor it g b) := by
  refine weakS (ps_for hp hc hi hg hb hs) fun D σ H ⟨Z, env, rep, h⟩ => ⟨Z, env, rep, h.bind.mono fun t e Z1 H1 x1 p J hJ => ?_⟩
  exact for_ok (lend_rep t.src x1.rep) hJ (PostS.lend t.src x1.rep (PostS.rel x1 p))
/-! ### while -/
theorem PostS.bind1 {M : MC} {α : Type} {o : Out α} {k : α → Ev → Out Fl} {Z H Z1 H1 : Hp} {env env1 : Ev} {σ σ1 : SV} {D : Ends} (x : Aft M Z H env σ Z1 H1 env1 σ1) (h : PostS M W Z H env σ (o.bind k) D) : Post M W Z1 H1 env1 σ1 o fun a e Z2 H2 => PostS M W Z H env σ (k a e) D := by
  cases o with
  | ok a e => exact fun _ _ _ => h
  | exn b e => exact fun cv d Z' H' y => h cv d σ1 Z' H' (x.trans y)
  | bad => exact h
end
/-! ### the iterables -/
section
variable {X : Cx} {W : WX} {M : MC}
theorem Owned.not_frz {Z H : Hp} {env : Ev} {σ : SV} (r : Rep M Z H env σ) {a : Addr} {o : HO} (h : Z a = some o) : ¬ Owned env σ a := fun ⟨i, s, xs, h1, h2, h3⟩ => by
  obtain ⟨b, vs, e1, e2, e3, _⟩ := r.lst i s xs h1 (Sl.lst_of_mut h2)
  rw [h3] at e1
  cases e1
  rw [h] at e3
  cases e3
theorem kp_frz {Z H H' : Hp} {env : Ev} {σ : SV} {a : Addr} {o : HO} (r : Rep M Z H env σ) (h : Z a = some o) (ht : tagO o = false) (k : Kp Z H env σ H') : H' a = some o :=
  (k a (r.sub.al a (by rw [h]; simp)) (Owned.not_frz r h) (fun n z => by rw [h] at z; cases z; cases ht)).trans (r.sub.th _ _ h ht)
theorem kp_frzT {Z H H' : Hp} {env : Ev} {σ : SV} {a : Addr} {vs : List V} (r : Rep M Z H env σ) (h : SqT M.K Z a vs) (k : Kp Z H env σ H') : SqT M.K H' a vs := by
  rcases h with (h | ⟨o, h⟩) | h
  · exact .inl (.inl (kp_frz r h rfl k))
  · exact .inl (.inr ⟨o, kp_frz r h rfl k⟩)
  · exact .inr h
/-- a walked result: its items; the slot that is lent; whether it is a tuple -/
def walkV : D → Option (List D × Bool)
  | .tup xs => some (xs, true)
  | .lst xs => some (xs, false)
  | .scr xs => some (xs, false)
  | _ => none
def R.walk (r : R) (e : Ev) : Option (IT × Bool) := match r with
  | .val d => (walkV d).map fun p => (⟨p.1, []⟩, p.2)
  | .new xs => some (⟨xs, []⟩, false)
  | .at i => match e[i]? with
    | some (.val d) => (walkV d).map fun p => (⟨p.1, []⟩, p.2)
    | some s => s.lst?.map fun xs => (⟨xs, [i]⟩, false)
    | none => none
  | .liv _ => none
def iSeq (s : SE) : SI := fun env => (s env).bind fun r e => match r.walk e with
  | some t => .ok t.1 e
  | none => .bad
/-- it stands -/
def Stands (K : PySem.W.Frag) (Z H : Hp) (env : Ev) (σ : SV) (a : Addr) (vs : List V) (b : Bool) : Prop := if b then (SqT K H a vs ∧ ∀ H', Kp Z H env σ H' → SqT K H' a vs) else (SqL K H a vs ∧ ∀ H', Kp Z H env σ H' → SqL K H' a vs)
theorem Kp.refl {Z H : Hp} {env : Ev} {σ : SV} : Kp Z H env σ H := fun _ _ _ _ => rfl
theorem walkV_at {Z H : Hp} {env : Ev} {σ : SV} {v : V} {d : D} {xs : List D} {b : Bool} (q : Rp M Z v d) (rep : Rep M Z H env σ) (e : walkV d = some (xs, b)) :
    ∃ a vs, v = .ref a ∧ Rps M Z vs xs ∧ Stands M.K Z H env σ a vs b := by
  cases q with
  | @tup a vs ds hs rs =>
    cases e
    exact ⟨a, vs, rfl, rs, (iteT ⟨seqT rep.sub.th hs.seq, fun H' k => kp_frzT rep hs.seq k⟩ : if true = true then _ else _)⟩
  | @lst a vs ds hs rs =>
    cases e
    exact ⟨a, vs, rfl, rs, (iteF ⟨.inl (.inl (rep.sub.th _ _ hs rfl)), fun H' k => .inl (.inl (kp_frz rep hs rfl k))⟩ : if false = true then _ else _)⟩
  | @scr a vs ds hs rs =>
    cases e
    refine ⟨a, vs, rfl, rs, (iteF ⟨seqL rep.sub.th hs, fun H' k => ?_⟩ : if false = true then _ else _)⟩
    rcases hs with (hs | ⟨o, hs⟩) | hs
    · exact .inl (.inl (kp_frz rep hs rfl k))
    · exact .inl (.inr ⟨o, kp_frz rep hs rfl k⟩)
    · exact .inr hs
  | _ => cases e
/-- what a walked result is in the heap -/
theorem walk_at {Z H H0 : Hp} {env : Ev} {σ : SV} {v : V} {r : R} {t : IT} {b : Bool} (rr : RR M Z H env σ H0 v r) (rep : Rep M Z H env σ) (e : r.walk env = some (t, b)) :
    ∃ a vs, v = .ref a ∧ Rps M Z vs t.items ∧ Stands M.K Z H (lendI t.src env) σ a vs b := by
  cases r with
  | val d =>
    unfold R.walk at e
    simp only at e
    cases q : walkV d with
    | none => rw [q] at e; cases e
    | some p =>
      obtain ⟨xs, b'⟩ := p
      rw [q] at e
      cases e
      exact walkV_at rr rep q
  | liv n => cases e
  | new xs =>
    cases e
    obtain ⟨a, vs, e1, e2, e3, e4, e5, e6⟩ := rr
    exact ⟨a, vs, e1, e4, (iteF ⟨.inl (.inl e2), fun H' k => .inl (.inl ((k a (by rw [e2]; simp) (fun z => e6 z.listy) (by rw [e3]; simp)).trans e2))⟩ : if false = true then _ else _)⟩
  | «at» i =>
    have rr : σ[i]? = some (some v) := rr
    unfold R.walk at e
    simp only at e
    split at e
    · rename_i d h
      cases q : walkV d with
      | none => rw [q] at e; cases e
      | some p =>
        obtain ⟨xs, b'⟩ := p
        rw [q] at e
        cases e
        obtain ⟨w, e1, e2⟩ := rep.val i d h
        rw [rr] at e1
        cases e1
        exact walkV_at e2 rep q
    · rename_i s _ h
      cases hs : s.lst? with
      | none => rw [hs] at e; cases e
      | some xs =>
        rw [hs] at e
        cases e
        obtain ⟨a, vs, e1, e2, e3, e4⟩ := rep.lst i s xs h (Sl.cel_of_lst hs).1
        rw [(Sl.cel_of_lst hs).2] at e2
        rw [rr] at e1
        cases e1
        have hn : ¬ Owned (lendI [i] env) σ a := fun ⟨j, t, ys, f1, f2, f3⟩ => by
          have hi : i < env.length := (List.getElem?_eq_some_iff.mp h).1
          have key : ∀ e' : Ev, (e' = env.set i (.lent xs)) → e'[j]? = some t → False := fun e' he g1 => by
            subst he
            by_cases hj : i = j
            · subst hj
              rw [List.getElem?_set_self hi] at g1
              cases g1; cases f2
            · rw [List.getElem?_set_ne hj] at g1
              exact hj (rep.apart i j s t xs ys a h g1 (Sl.cel_of_lst hs).1 (Sl.lst_of_mut f2) rr f3)
          have f1 : (lendO (some i) env)[j]? = some t := f1
          unfold lendO at f1
          simp only [h] at f1
          cases s with
          | own zs => cases hs; exact key _ rfl f1
          | pin zs => cases hs; exact key _ rfl f1
          | lent zs =>
            cases hs
            simp only at f1
            exact key _ (set_same h).symm f1
          | _ => cases hs
        exact ⟨a, vs, rfl, e4, (iteF ⟨.inl (.inl e2), fun H' k => .inl (.inl ((k a (by rw [e2]; simp) hn (by rw [e3]; simp)).trans e2))⟩ : if false = true then _ else _)⟩
    · cases e
theorem PI.or {tg e : Expr} {t t' : TI} (p : PI X tg e t) (p' : PI X tg e t') : PI X tg e (fun σ H R => t σ H R ∨ t' σ H R) :=
  ⟨fun pins s σ H R I q => q.elim (p.run pins s σ H R I) (p'.run pins s σ H R I)⟩
/-- ranges -/
def rngD (lo : Int) (n : Nat) : List D := (List.range n).map fun i => .int (lo + (i : Nat))
theorem itD_range {Z H : Hp} {env : Ev} {σ : SV} {lo : Int} {n : Nat} : ItD M (Itr lo n) (rngD lo n) Z H env σ := by
  refine ⟨fun _ => True, YFn fun i => .int (lo + i), by rw [show (rngD lo n).length = n by simp [rngD]]; exact walk_range, fun _ _ => trivial, fun i Z' H' H'' x d hz hs hd ⟨e, hx⟩ => ?_⟩
  subst e
  refine ⟨Z', .refl hs, ?_⟩
  have hi : i < n := by
    have := (List.getElem?_eq_some_iff.mp hd).1
    simpa [rngD] using this
  have : d = .int (lo + (i : Nat)) := by
    rw [rngD, List.getElem?_map, List.getElem?_range hi] at hd
    simpa using hd.symm
  rw [this, hx]
  exact .int _
def BIG : Int := 4611686018427387904
def iRange1 (t : SL) : SI := fun env => (t env).bind fun rs e => match reads rs e with
  | some [.int j] => if -BIG ≤ j ∧ j < BIG then .ok ⟨rngD 0 j.toNat, []⟩ e else .bad
  | _ => .bad
def iRange2 (t : SL) : SI := fun env => (t env).bind fun rs e => match reads rs e with
  | some [.int i, .int j] => if -BIG ≤ i ∧ i < BIG ∧ -BIG ≤ j ∧ j < BIG then .ok ⟨rngD i (j - i).toNat, []⟩ e else .bad
  | _ => .bad
theorem nows1 {Z H : Hp} {vs : List V} {d : D} (h : Nows M Z H vs [d]) : ∃ v, vs = [v] ∧ Now M Z H v d := by
  match vs, h with
  | [v], ⟨h1, _⟩ => exact ⟨v, rfl, h1⟩
theorem di_range1 {tg a : Expr} {t : SL} {p pos : Pos} (hm : X.mg "range" = none) (ha : DA W X [a] t) (hg : Gl X "range" := by rfl) (hs : starEach [a] X.env = [(false, eval a X.env)] := by rfl) : DI W X tg (.Call (.Name "range" p) [a] [] pos) (iRange1 t) := by
  refine weakI (pi_range1 hg hm ha hs) fun σ H R ⟨Z, env, rep, h⟩ => ⟨Z, env, rep, h.bind.mono fun rs e Z1 H1 x1 p vs rrs => ?_⟩
  split at p
  · rename_i j q
    obtain ⟨v, e1, e2⟩ := nows1 (rrs.nows x1.rep q)
    have e3 := e2.int
    subst e1 e3
    split at p
    · rename_i hb
      exact ⟨j, rfl, by unfold BIG at hb; omega, by unfold BIG at hb; omega, p.ok x1.rep _ itD_range⟩
    · exact p.elim
  · exact p.elim
end
end DV
namespace DV
open PySem PySem.Spec L2
/-! ### hidden slots -/
def holes : List Nat → Ev → Ev
  | [], e => e
  | v :: vs, e => (holes vs e).set v .hole
def restore : List Nat → Ev → Ev → Ev
  | [], _, e' => e'
  | v :: vs, e, e' => restore vs e (match (holes vs e)[v]? with
    | some s => e'.set v s
    | none => e')
section
variable {M : MC} {W : WX} {Z H Z' H' Z1 H1 Z2 H2 H0 : Hp} {env env' env1 env2 : Ev} {σ σ' σ1 σ2 : SV} {v : V} {d : D} {r : R} {a : Addr}
theorem set_out {α : Type} {l : List α} {i : Nat} {x : α} (h : l[i]? = none) : l.set i x = l := by
  apply List.set_eq_of_length_le
  exact List.getElem?_eq_none_iff.mp h
theorem holes_rep : ∀ (vs : List Nat) {env : Ev} {σ : SV}, Rep M Z H env σ → Rep M Z H (holes vs env) (wipe σ vs)
  | [], _, _, r => r
  | v :: vs, _, _, r => (holes_rep vs r).hole_set
/-- one slot hidden, shown again -/
theorem Aft.unhide {i : Nat} {s : Sl} (r : Rep M Z H env σ) (h : env[i]? = some s) (x : Aft M Z H (env.set i .hole) (σ.set i none) Z' H' env' (σ.set i none)) : Aft M Z H env σ Z' H' (env'.set i s) σ := by
  have hi : i < env.length := (List.getElem?_eq_some_iff.mp h).1
  have hi' : i < env'.length := by rw [x.rep.len, List.length_set, ← r.len]; exact hi
  have own0 : ∀ b, Owned (env.set i .hole) (σ.set i none) b → Owned env σ b := fun b ⟨j, t, ys, f1, f2, f3⟩ => by
    by_cases hj : i = j
    · subst hj
      rw [List.getElem?_set_self hi] at f1
      cases f1; cases f2
    · rw [List.getElem?_set_ne hj] at f1 f3
      exact ⟨j, t, ys, f1, f2, f3⟩
  have lis0 : ∀ b, Listy (env.set i .hole) (σ.set i none) b → ∃ (j : Nat) (t : Sl) (ys : List D), i ≠ j ∧ env[j]? = some t ∧ t.cel? = some ys ∧ σ[j]? = some (some (V.ref b)) := fun b ⟨j, t, ys, f1, f2, f3⟩ => by
    by_cases hj : i = j
    · subst hj
      rw [List.getElem?_set_self hi] at f1
      cases f1; cases f2
    · rw [List.getElem?_set_ne hj] at f1 f3
      exact ⟨j, t, ys, hj, f1, f2, f3⟩
  -- the hidden list stands
  have stand : ∀ xs, s.cel? = some xs → ∃ a vs, σ[i]? = some (some (V.ref a)) ∧ H' a = some (s.ho M a vs) ∧ Z' a = none ∧ Rps M Z' vs xs ∧ H a ≠ none ∧ ¬ Listy env' (σ.set i none) a := fun xs hs => by
    obtain ⟨a, vs, e1, e2, e3, e4⟩ := r.lst i s xs h hs
    have hne : H a ≠ none := by rw [e2]; simp
    have nl : ¬ Listy (env.set i .hole) (σ.set i none) a := fun z => by
      obtain ⟨j, t, ys, hj, f1, f2, f3⟩ := lis0 a z
      exact hj (r.apart i j s t xs ys a h f1 hs f2 e1 f3)
    obtain ⟨k1, k2⟩ := x.kept a hne (fun z => nl z.listy) (by rw [e3]; simp)
    refine ⟨a, vs, e1, k1.trans e2, k2.trans e3, e4.mono x.sub, hne, fun z => ?_⟩
    rcases x.listy z with z | z
    · exact nl z
    · exact hne z
  have w0 : ∀ (j : Nat) (S : List D), env'[j]? = some (.wld S) → i ≠ j ∧ ∃ T, env[j]? = some (.wld T) := fun j S e => by
    obtain ⟨T, hT⟩ := x.wk.was j S e
    have hj : i ≠ j := fun z => by
      subst z
      rw [List.getElem?_set_self hi] at hT; cases hT
    exact ⟨hj, T, w_of_set rfl hT⟩
  have w1 : ∀ (j : Nat) (S : List D), i ≠ j → (env'.set i s)[j]? = some (.wld S) → env'[j]? = some (.wld S) := fun j S hj e => by
    rw [List.getElem?_set_ne hj] at e; exact e
  have w2 : ∀ (S : List D), (env'.set i s)[i]? = some (.wld S) → s = .wld S := fun S e => by
    rw [List.getElem?_set_self hi'] at e; cases e; rfl
  have now : ∀ (S : List D), s = .wld S → NoW (env.set i .hole) := fun S hs j T e => by
    have e' := w_of_set (s := .hole) rfl e
    have := r.wone i j S T (hs ▸ h) e'
    subst this
    rw [List.getElem?_set_self hi] at e; cases e
  have wkk : WK Z H env Z' H' (env'.set i s) := ⟨fun j S e => by
    by_cases hj : i = j
    · subst hj
      rw [h] at e; cases e
      exact ⟨S, List.getElem?_set_self hi'⟩
    · obtain ⟨T, hT⟩ := x.wk.has j S (by rw [List.getElem?_set_ne hj]; exact e)
      exact ⟨T, by rw [List.getElem?_set_ne hj]; exact hT⟩, fun j S e => by
    by_cases hj : i = j
    · subst hj
      exact ⟨S, by rw [h, w2 S e]⟩
    · exact (w0 j S (w1 j S hj e)).2, fun n => x.wk.tags fun j S e => n j S (w_of_set rfl e), fun n => x.wk.kept fun j S e => n j S (w_of_set rfl e)⟩
  refine ⟨⟨by rw [List.length_set, x.rep.len, List.length_set], x.rep.sub, fun j d e => ?_, fun j t ys e1 e2 => ?_, fun j k sj sk xj xk b e1 e2 e3 e4 e5 e6 => ?_, fun j S e => ?_, fun j k S T e1 e2 => ?_⟩, x.sub, fun b h1 h2 h3 => x.kept b h1 (fun z => h2 (own0 b z)) h3, x.alive, fun b ho => ?_, fun j t h1 h2 => ?_, fun j t h1 h2 => ?_, fun j ys h1 => ?_, fun j ys h1 => ?_, wkk⟩
  · by_cases hj : i = j
    · subst hj
      rw [List.getElem?_set_self hi'] at e
      cases e
      obtain ⟨w, e1, e2⟩ := r.val i d h
      exact ⟨w, e1, e2.mono x.sub⟩
    · rw [List.getElem?_set_ne hj] at e
      obtain ⟨w, e1, e2⟩ := x.rep.val j d e
      rw [List.getElem?_set_ne hj] at e1
      exact ⟨w, e1, e2⟩
  · by_cases hj : i = j
    · subst hj
      rw [List.getElem?_set_self hi'] at e1
      cases e1
      obtain ⟨a, vs, f1, f2, f3, f4, _⟩ := stand ys e2
      exact ⟨a, vs, f1, f2, f3, f4⟩
    · rw [List.getElem?_set_ne hj] at e1
      obtain ⟨a, vs, f1, f2, f3, f4⟩ := x.rep.lst j t ys e1 e2
      rw [List.getElem?_set_ne hj] at f1
      exact ⟨a, vs, f1, f2, f3, f4⟩
  · by_cases hj : i = j
    · subst hj
      rw [List.getElem?_set_self hi'] at e1
      cases e1
      by_cases hk : i = k
      · exact hk
      · rw [List.getElem?_set_ne hk] at e2
        obtain ⟨a, vs, f1, f2, f3, f4, f5, f6⟩ := stand xj e3
        rw [e5] at f1
        cases f1
        exact absurd ⟨k, sk, xk, e2, e4, by rw [List.getElem?_set_ne hk]; exact e6⟩ f6
    · rw [List.getElem?_set_ne hj] at e1
      by_cases hk : i = k
      · subst hk
        rw [List.getElem?_set_self hi'] at e2
        cases e2
        obtain ⟨a, vs, f1, f2, f3, f4, f5, f6⟩ := stand xk e4
        rw [e6] at f1
        cases f1
        exact absurd ⟨j, sj, xj, e1, e3, by rw [List.getElem?_set_ne hj]; exact e5⟩ f6
      · rw [List.getElem?_set_ne hk] at e2
        exact x.rep.apart j k sj sk xj xk b e1 e2 e3 e4 (by rw [List.getElem?_set_ne hj]; exact e5) (by rw [List.getElem?_set_ne hk]; exact e6)
  · by_cases hj : i = j
    · subst hj
      have hs := w2 S e
      exact (r.wld i S (hs ▸ h)).mono x.sub (x.wk.tags (now S hs)) (x.wk.kept (now S hs))
    · exact x.rep.wld j S (w1 j S hj e)
  · by_cases hj : i = j
    · subst hj
      by_cases hk : i = k
      · exact hk
      · obtain ⟨_, U, hU⟩ := w0 k T (w1 k T hk e2)
        have hs := w2 S e1
        exact r.wone i k S U (hs ▸ h) hU
    · by_cases hk : i = k
      · subst hk
        obtain ⟨_, U, hU⟩ := w0 j S (w1 j S hj e1)
        have hs := w2 T e2
        exact r.wone j i U T hU (hs ▸ h)
      · exact x.rep.wone j k S T (w1 j S hj e1) (w1 k T hk e2)
  · obtain ⟨j, t, ys, f1, f2, f3⟩ := ho
    by_cases hj : i = j
    · subst hj
      rw [List.getElem?_set_self hi'] at f1
      cases f1
      exact .inl ⟨i, s, ys, h, f2, f3⟩
    · rw [List.getElem?_set_ne hj] at f1
      rcases x.owned b ⟨j, t, ys, f1, f2, by rw [List.getElem?_set_ne hj]; exact f3⟩ with z | z
      · exact .inl (own0 b z)
      · exact .inr z
  · by_cases hj : i = j
    · subst hj
      rw [h] at h1
      cases h1
      exact ⟨rfl, s, List.getElem?_set_self hi', h2⟩
    · obtain ⟨e1, s', h', p'⟩ := x.pins j t (by rw [List.getElem?_set_ne hj]; exact h1) h2
      rw [List.getElem?_set_ne hj]
      exact ⟨rfl, s', h', p'⟩
  · by_cases hj : i = j
    · subst hj
      rw [List.getElem?_set_self hi'] at h1
      cases h1
      exact ⟨s, h, h2⟩
    · rw [List.getElem?_set_ne hj] at h1
      obtain ⟨s', h', p'⟩ := x.unpin j t h1 h2
      rw [List.getElem?_set_ne hj] at h'
      exact ⟨s', h', p'⟩
  · by_cases hj : i = j
    · subst hj
      rw [h] at h1
      cases h1
      exact ⟨rfl, List.getElem?_set_self hi'⟩
    · rw [List.getElem?_set_ne hj]
      exact ⟨rfl, (x.lents j ys (by rw [List.getElem?_set_ne hj]; exact h1)).2⟩
  · by_cases hj : i = j
    · subst hj
      rw [List.getElem?_set_self hi'] at h1
      cases h1
      exact h
    · rw [List.getElem?_set_ne hj] at h1
      have := x.unlent j ys h1
      rw [List.getElem?_set_ne hj] at this
      exact this
theorem unhide_all : ∀ (vs : List Nat) {env : Ev} {σ : SV} {env' : Ev}, Rep M Z H env σ → Aft M Z H (holes vs env) (wipe σ vs) Z' H' env' (wipe σ vs) → Aft M Z H env σ Z' H' (restore vs env env') σ
  | [], _, _, _, _, x => x
  | v :: vs, env, σ, env', r, x => by
    have r1 := holes_rep vs r
    unfold restore
    cases q : (holes vs env)[v]? with
    | none =>
      refine unhide_all vs r ?_
      have e1 : holes (v :: vs) env = holes vs env := set_out q
      have e2 : wipe σ (v :: vs) = wipe σ vs := set_out (List.getElem?_eq_none_iff.mpr (by rw [← r1.len]; exact List.getElem?_eq_none_iff.mp q))
      rw [e1, e2] at x
      exact x
    | some s => exact unhide_all vs r (x.unhide r1 q)
/-- slots wiped -/
theorem Aft.wiped {vs : List Nat} : ∀ {ws : List Nat} {env' : Ev} {σ' : SV}, (∀ v ∈ ws, v ∈ vs) → (∀ v ∈ vs, env[v]? = some .hole ∨ env[v]? = none) → Aft M Z H env σ Z' H' env' σ' → Aft M Z H env σ Z' H' (holes ws env') (wipe σ' ws)
  | [], _, _, _, _, x => x
  | w :: ws, env', σ', hw, hh, x => by
    have y := Aft.wiped (ws := ws) (fun v hv => hw v (List.mem_cons_of_mem _ hv)) hh x
    have hwv := hh w (hw w List.mem_cons_self)
    have np : ∀ (t : Sl), env[w]? = some t → t = .hole := fun t e => by
      rcases hwv with z | z
      · rw [z] at e; cases e; rfl
      · rw [z] at e; cases e
    show Aft M Z H env σ Z' H' ((holes ws env').set w .hole) ((wipe σ' ws).set w none)
    refine ⟨y.rep.hole_set, y.sub, y.kept, y.alive, fun b ⟨j, t, ys, f1, f2, f3⟩ => ?_, fun j t h1 h2 => ?_, fun j t h1 h2 => ?_, fun j ys h1 => ?_, fun j ys h1 => ?_, y.wk.set (fun S e => by obtain ⟨T, hT⟩ := y.wk.was w S e; cases np _ hT) rfl⟩
    · by_cases hj : w = j
      · subst hj
        by_cases hl : w < (holes ws env').length
        · rw [List.getElem?_set_self hl] at f1
          cases f1; cases f2
        · rw [List.getElem?_eq_none (by rw [List.length_set]; omega)] at f1
          cases f1
      · rw [List.getElem?_set_ne hj] at f1 f3
        exact y.owned b ⟨j, t, ys, f1, f2, f3⟩
    · have hj : w ≠ j := fun z => by
        subst z
        have := np t h1
        subst this
        cases h2
      rw [List.getElem?_set_ne hj, List.getElem?_set_ne hj]
      exact y.pins j t h1 h2
    · by_cases hj : w = j
      · subst hj
        by_cases hl : w < (holes ws env').length
        · rw [List.getElem?_set_self hl] at h1
          cases h1; cases h2
        · rw [List.getElem?_eq_none (by rw [List.length_set]; omega)] at h1
          cases h1
      · rw [List.getElem?_set_ne hj] at h1
        exact y.unpin j t h1 h2
    · have hj : w ≠ j := fun z => by
        subst z
        cases np _ h1
      rw [List.getElem?_set_ne hj, List.getElem?_set_ne hj]
      exact y.lents j ys h1
    · by_cases hj : w = j
      · subst hj
        by_cases hl : w < (holes ws env').length
        · rw [List.getElem?_set_self hl] at h1
          cases h1
        · rw [List.getElem?_eq_none (by rw [List.length_set]; omega)] at h1
          cases h1
      · rw [List.getElem?_set_ne hj] at h1
        exact y.unlent j ys h1
theorem holes_at : ∀ (vs : List Nat) (env : Ev) (v : Nat), v ∈ vs → (holes vs env)[v]? = some .hole ∨ (holes vs env)[v]? = none
  | w :: vs, env, v, h => by
    unfold holes
    by_cases e : w = v
    · subst e
      by_cases hl : w < (holes vs env).length
      · exact .inl (List.getElem?_set_self hl)
      · exact .inr (List.getElem?_eq_none (by rw [List.length_set]; omega))
    · rw [List.getElem?_set_ne e]
      rcases List.mem_cons.mp h with z | z
      · exact absurd z.symm e
      · exact holes_at vs env v z
/-- an object that is nobody's changes -/
theorem Aft.beside {p : Addr} {o : HO} (x : Aft M Z H env σ Z' H' env' σ') (h1 : H p = none) (h2 : Z' p = none) (h3 : ¬ Listy env' σ' p) : Aft M Z H env σ Z' (upd H' p o) env' σ' := by
  have ne : ∀ b, H b ≠ none → b ≠ p := fun b h z => by rw [z] at h; exact h h1
  have nt : ∀ b n, Z' b = some (.own n) → b ≠ p := fun b n e z => by rw [z, h2] at e; cases e
  refine ⟨⟨x.rep.len, ⟨fun b u e t => ?_, fun b e => ?_⟩, x.rep.val, fun i s xs f1 f2 => ?_, x.rep.apart, fun i S h => (x.rep.wld i S h).mono (Same.refl _) (fun _ _ h => h) (fun b n e => upd_ne (nt b n e)), x.rep.wone⟩, x.sub, fun b f1 f2 f3 => ?_, fun b f1 => ?_, x.owned, x.pins, x.unpin, x.lents, x.unlent, ⟨x.wk.has, x.wk.was, x.wk.tags, fun n b k e => (upd_ne (nt b k (x.sub _ _ e))).trans (x.wk.kept n b k e)⟩⟩
  · have : b ≠ p := fun z => by rw [z, h2] at e; cases e
    rw [upd_ne this]; exact x.rep.sub.th _ _ e t
  · have : b ≠ p := fun z => e (by rw [z]; exact h2)
    rw [upd_ne this]; exact x.rep.sub.al _ e
  · obtain ⟨b, vs, e1, e2, e3, e4⟩ := x.rep.lst i s xs f1 f2
    have : b ≠ p := fun z => h3 ⟨i, s, xs, f1, f2, by rw [e1, z]⟩
    exact ⟨b, vs, e1, by rw [upd_ne this]; exact e2, e3, e4⟩
  · rw [upd_ne (ne b f1)]; exact x.kept b f1 f2 f3
  · rw [upd_ne (ne b f1)]; exact x.alive b f1
end
theorem wipe_wipe (σ : SV) (vs : List Nat) : wipe (wipe σ vs) vs = wipe σ vs := by
  apply List.ext_getElem?
  intro j
  have key : ∀ (ws : List Nat) (τ : SV) (j : Nat), j ∈ ws → (wipe τ ws)[j]? = some none ∨ (wipe τ ws)[j]? = none := by
    intro ws
    induction ws with
    | nil => intro τ j h; cases h
    | cons w ws ih =>
      intro τ j h
      show ((wipe τ ws).set w none)[j]? = some none ∨ ((wipe τ ws).set w none)[j]? = none
      by_cases e : w = j
      · subst e
        by_cases hl : w < (wipe τ ws).length
        · exact .inl (List.getElem?_set_self hl)
        · exact .inr (List.getElem?_eq_none (by rw [List.length_set]; omega))
      · rw [List.getElem?_set_ne e]
        rcases List.mem_cons.mp h with z | z
        · exact absurd z.symm e
        · exact ih τ j z
  have out : ∀ (ws : List Nat) (τ : SV) (j : Nat), j ∉ ws → (wipe τ ws)[j]? = τ[j]? := by
    intro ws
    induction ws with
    | nil => intro τ j h; rfl
    | cons w ws ih =>
      intro τ j h
      show ((wipe τ ws).set w none)[j]? = τ[j]?
      rw [List.getElem?_set_ne (fun z => h (by rw [z]; exact List.mem_cons_self))]
      exact ih τ j fun z => h (List.mem_cons_of_mem _ z)
  by_cases h : j ∈ vs
  · have l1 : (wipe (wipe σ vs) vs).length = (wipe σ vs).length := wipe_length ..
    rcases key vs (wipe σ vs) j h with a | a <;> rcases key vs σ j h with b | b
    · rw [a, b]
    · have := List.getElem?_eq_none_iff.mp b
      rw [List.getElem?_eq_none (by omega)] at a
      cases a
    · have := List.getElem?_eq_none_iff.mp a
      rw [List.getElem?_eq_none (by omega)] at b
      cases b
    · rw [a, b]
  · exact out vs _ j h
theorem holes_lst : ∀ (ws : List Nat) {e : Ev} {j : Nat} {t : Sl} {ys : List D}, (holes ws e)[j]? = some t → t.cel? = some ys → ∃ t', e[j]? = some t' ∧ t'.cel? = some ys
  | [], _, _, t, _, h, hm => ⟨t, h, hm⟩
  | w :: ws, e, j, t, ys, h, hm => by
    unfold holes at h
    by_cases hj : w = j
    · subst hj
      by_cases hl : w < (holes ws e).length
      · rw [List.getElem?_set_self hl] at h
        cases h; cases hm
      · rw [List.getElem?_eq_none (by rw [List.length_set]; omega)] at h
        cases h
    · rw [List.getElem?_set_ne hj] at h
      exact holes_lst ws h hm
theorem AftE.weaken {M : MC} {H0 Hb Z H Z' : Hp} {env env' : Ev} {σ : SV} (y : AftE M H0 Z H env σ Z' env') (h : ∀ a, Hb a ≠ none → H0 a ≠ none) : AftE M Hb Z H env σ Z' env' :=
  ⟨y.rep, y.sub, fun a h1 h2 => y.kept a (h a h1) h2, y.owned, y.pins, y.lents, y.wlds, y.tags⟩
/-! ### list comprehensions -/
def compL (g : GT) (c : SB) (s : SE) (vs : List Nat) : List D → List D → Ev → Out (List D)
  | [], acc, e => .ok acc e
  | d :: ds, acc, e => match g d e with
    | none => .bad
    | some e1 => match c e1 with
      | .ok true e2 => match s e2 with
        | .ok r e3 => match r.esc e3 with
          | some (y, e4) => if acc.length < LIM then compL g c s vs ds (acc ++ [y]) (holes vs e4) else .bad
          | none => .bad
        | _ => .bad
      | .ok false e2 => compL g c s vs ds acc (holes vs e2)
      | _ => .bad
def bYes : SB := fun env => .ok true env
def vComp (it : SI) (vs : List Nat) (g : GT) (c : SB) (s : SE) : SE := fun env => (it env).bind fun t e => match compL g c s vs t.items [] (holes vs (lendI t.src e)) with
  | .ok acc e3 => .ok (.new acc) (unlendI t.src e (restore vs (lendI t.src e) e3))
  | _ => .bad
abbrev W0 : WX := fun _ _ _ _ => False
def DTs (W : WX) (X : Cx) (ifs : List Expr) (f : SB) : Prop := PTs X ifs (tT (mc X) W f)
section
variable {X : Cx} {W : WX}
theorem dts_nil : DTs W X [] bYes := ⟨fun pins s σ H Q I ⟨Z, env, rep, h⟩ => (pts_nil (X := X)).run pins s σ H Q I (h _ _ (.refl rep))⟩
theorem comp_ok {M : MC} {g : GT} {ts : List Nat} {c : SB} {s : SE} {vs : List Nat} {J : It} {items : List D} {Z1 H1 : Hp} {e1 : Ev} {σ : SV} {p : Addr} {Q : Hp → Prop} (rep : Rep M Z1 H1 e1 σ) (hI : ItD M J items Z1 H1 e1 σ) (hp : H1 p = none) (hts : ∀ t ∈ ts, t ∈ vs)
    (fin : match compL g c s vs items [] (holes vs e1) with
      | .ok acc e3 => ∀ Z' H' ws, Aft M Z1 H1 (holes vs e1) (wipe σ vs) Z' H' e3 (wipe σ vs) → H' p = some (.lst ws) → Z' p = none → ¬ Listy e3 (wipe σ vs) p → Rps M Z' ws acc → Q H'
      | _ => False) :
    ∃ Wf : Nat → Nat → Hp → Prop, (∃ m, Wf 0 m (upd H1 p (.lst []))) ∧ ∀ i m H, Wf i m H →
      (J.stop i H ∧ Q H) ∨ (J.go i H ∧ ∃ Nx : Hp → Prop, (∀ H', Nx H' → ∃ m', m' < m ∧ Wf (i + 1) m' H') ∧ ∀ x H', J.yld i H x H' → tG M g ts x (wipe σ vs) H' fun σ2 H2 => wipe σ2 vs = wipe σ vs ∧ tT M W0 c σ2 H2 fun b H3 =>
        if b = true then tE M W0 s σ2 H3 fun y H4 => ∃ acc, H4 p = some (.lst acc) ∧ acc.length < sizeLine ∧ Nx (upd H4 p (.lst (acc ++ [y]))) else Nx H3) := by
  obtain ⟨G, Y, w, hG, hY⟩ := hI.ex
  have hr := holes_rep vs rep
  -- what is owned within is owned without
  have own0 : ∀ b, Owned (holes vs e1) (wipe σ vs) b → Owned e1 σ b := by
    have key : ∀ (ws : List Nat) (j : Nat) (t : Sl) (ys : List D), (holes ws e1)[j]? = some t → t.mc? = some ys → e1[j]? = some t := by
      intro ws
      induction ws with
      | nil => intro j t ys h _; exact h
      | cons w ws ih =>
        intro j t ys h hm
        unfold holes at h
        by_cases hj : w = j
        · subst hj
          by_cases hl : w < (holes ws e1).length
          · rw [List.getElem?_set_self hl] at h
            cases h; cases hm
          · rw [List.getElem?_eq_none (by rw [List.length_set]; omega)] at h
            cases h
        · rw [List.getElem?_set_ne hj] at h
          exact ih j t ys h hm
    intro b ⟨j, t, ys, f1, f2, f3⟩
    exact ⟨j, t, ys, key vs j t ys f1 f2, f2, (wipe_some f3).1⟩
  let Inv : Nat → Hp → Prop := fun i H => ∃ Z e acc ws, Aft M Z1 H1 (holes vs e1) (wipe σ vs) Z H e (wipe σ vs) ∧ H p = some (.lst ws) ∧ Z p = none ∧ ¬ Listy e (wipe σ vs) p ∧ Rps M Z ws acc ∧
    (match compL g c s vs (items.drop i) acc e with
      | .ok acc e3 => ∀ Z' H' ws, Aft M Z1 H1 (holes vs e1) (wipe σ vs) Z' H' e3 (wipe σ vs) → H' p = some (.lst ws) → Z' p = none → ¬ Listy e3 (wipe σ vs) p → Rps M Z' ws acc → Q H'
      | _ => False)
  refine lc_it w Inv ?_ (fun i H _ ⟨Z, e, acc, ws, x, _⟩ => hG H fun a h1 h2 h3 => (x.kept a h1 (fun z => h2 (own0 a z)) h3).1) (fun i x H H2 hi ⟨Z, e, acc, ws, xa, hD, zD, nD, rD, k⟩ y => ?_) fun H ⟨Z, e, acc, ws, xa, hD, zD, nD, rD, k⟩ => ?_
  · have g := Grow.own (o := .lst []) hr.sub hp
    exact ⟨Z1, holes vs e1, [], [], hr.grow g, upd_same, none_of_sub hr.sub hp, fun z => z.ne hr hp, .nil, fin⟩
  · have hd : items[i]? = some items[i] := List.getElem?_eq_getElem hi
    rw [List.drop_eq_getElem_cons hi] at k
    obtain ⟨Z2, gr, rp⟩ := hY i Z H H2 x _ xa.sub xa.rep.sub hd y
    have hpne : H p ≠ none := by rw [hD]; simp
    have ax := xa.rep.grow gr
    -- D stands through what follows
    have keepD : ∀ {Z3 H3 : Hp} {e3 : Ev} {σ3 : SV}, Aft M Z H e (wipe σ vs) Z3 H3 e3 σ3 → H3 p = some (.lst ws) ∧ Z3 p = none ∧ ¬ Listy e3 σ3 p ∧ Rps M Z3 ws acc := fun {Z3 H3 e3 σ3} ay => by
      obtain ⟨k1, k2⟩ := ay.kept p hpne (fun z => nD z.listy) (by rw [zD]; simp)
      refine ⟨k1.trans hD, k2.trans zD, fun z => ?_, rD.mono ay.sub⟩
      rcases ay.listy z with z | z
      · exact nD z
      · exact hpne z
    have hh : ∀ v ∈ vs, (holes vs e1)[v]? = some .hole ∨ (holes vs e1)[v]? = none := fun v hv => holes_at vs e1 v hv
    unfold compL at k
    cases q : g items[i] e with
    | none => rw [q] at k; exact k.elim
    | some e2 =>
      rw [q] at k
      simp only at k
      refine ⟨Z2, e, _, e2, ax.rep, rp, q, fun σ3 x3 b3 => ?_⟩
      have y3 := ax.trans x3
      have c3 := xa.trans y3
      have w3 : wipe σ3 vs = wipe σ vs := (b3 vs hts).trans (wipe_wipe σ vs)
      refine ⟨w3, Z2, e2, x3.rep, ?_⟩
      -- back to the next turn
      have back : ∀ {Z5 H5 : Hp} {e5 : Ev}, Aft M Z1 H1 (holes vs e1) (wipe σ vs) Z5 H5 e5 σ3 → Aft M Z1 H1 (holes vs e1) (wipe σ vs) Z5 H5 (holes vs e5) (wipe σ vs) := fun {Z5 H5 e5} z => by
        have z' := Aft.wiped (vs := vs) (ws := vs) (fun _ h => h) hh z
        rw [w3] at z'
        exact z'
      cases q2 : c e2 with
      | bad => rw [q2] at k; exact k.elim
      | exn xx ee => rw [q2] at k; exact k.elim
      | ok b e3 =>
        rw [q2] at k
        intro Z3 H3 x4
        have y4 := y3.trans x4
        have c4 := xa.trans y4
        obtain ⟨d1, d2, d3, d4⟩ := keepD y4
        cases b with
        | false =>
          refine iteF ⟨Z3, holes vs e3, acc, ws, back c4, d1, d2, fun z => d3 ?_, d4, k⟩
          obtain ⟨j, t, ys, f1, f2, f3⟩ := z
          obtain ⟨t', g1, g2⟩ := holes_lst vs f1 f2
          exact ⟨j, t', ys, g1, g2, (wipe_some (by rw [w3]; exact f3)).1⟩
        | true =>
          refine iteT ⟨Z3, e3, x4.rep, ?_⟩
          simp only at k
          cases q3 : s e3 with
          | bad => rw [q3] at k; exact k.elim
          | exn xx ee => rw [q3] at k; exact k.elim
          | ok r e4 =>
            rw [q3] at k
            intro Z4 H4 x5 v rr
            have y5 := y4.trans x5
            have c5 := xa.trans y5
            obtain ⟨d1, d2, d3, d4⟩ := keepD y5
            simp only at k
            cases q4 : r.esc e4 with
            | none => rw [q4] at k; exact k.elim
            | some ye =>
              obtain ⟨y', e5⟩ := ye
              rw [q4] at k
              simp only at k
              by_cases hl : acc.length < LIM
              · rw [if_pos hl] at k
                -- the item is given away
                obtain ⟨Z5, r5, ye5, ke5⟩ := RR.escape2 rr x5.rep x5.alive q4
                have hvp : r.isNew = true → v ≠ .ref p := fun hn hv => by
                  cases r with
                  | val _ => cases hn
                  | «at» _ => cases hn
                  | liv _ => cases hn
                  | new xs =>
                    obtain ⟨a', ws', f1, f2, f3, f4, f5, f6⟩ := rr
                    rw [hv] at f1
                    cases f1
                    exact (y4.alive p hpne) f5
                have d2' : Z5 p = none := (ke5 p d3 hvp).trans d2
                have d3' : ¬ Listy e5 σ3 p := fun ⟨j, t, ys, f1, f2, f3⟩ => by
                  rcases Sl.mut_or f2 with z | z
                  · exact d3 (ye5.owned p ⟨j, t, ys, f1, z, f3⟩).listy
                  · subst z
                    exact d3 ⟨j, _, ys, (ye5.lents j ys).mpr f1, f2, f3⟩
                have c6 : Aft M Z1 H1 (holes vs e1) (wipe σ vs) Z5 H4 e5 σ3 := c5.escaped (ye5.weaken fun a ha => (xa.trans (y4)).alive a ha)
                refine ⟨ws, d1, lim_lt (by rw [rD.length]; exact hl), Z5, holes vs e5, acc ++ [y'], ws ++ [v], ?_, upd_same, d2', fun z => ?_, (d4.mono ye5.sub).append (.one r5), k⟩
                · exact back (c6.beside hp d2' d3')
                · obtain ⟨j, t, ys, f1, f2, f3⟩ := z
                  obtain ⟨t', g1, g2⟩ := holes_lst vs f1 f2
                  exact d3' ⟨j, t', ys, g1, g2, (wipe_some (by rw [w3]; exact f3)).1⟩
              · rw [if_neg hl] at k; exact k.elim
  · rw [List.drop_length] at k
    exact k Z H ws xa hD zD nD rD
end
end DV
namespace DV
open PySem PySem.Spec L2
section
variable {M : MC} {W : WX} {Z H Z' H' Z1 H1 Z2 H2 H0 : Hp} {env env' env1 env2 : Ev} {σ σ' σ1 σ2 : SV} {v : V} {d : D} {r : R} {a : Addr}
theorem holes_length : ∀ (vs : List Nat) (e : Ev), (holes vs e).length = e.length
  | [], _ => rfl
  | v :: vs, e => by unfold holes; rw [List.length_set, holes_length vs]
theorem restore_listy (hl : env.length = σ.length) : ∀ (vs : List Nat) {env' : Ev}, Listy (restore vs env env') σ a → Listy env' (wipe σ vs) a ∨ Listy env σ a
  | [], _, h => .inl h
  | v :: vs, env', h => by
    unfold restore at h
    cases q : (holes vs env)[v]? with
    | none =>
      rw [q] at h
      rcases restore_listy hl vs h with z | z
      · left
        obtain ⟨j, t, ys, f1, f2, f3⟩ := z
        refine ⟨j, t, ys, f1, f2, ?_⟩
        show ((wipe σ vs).set v none)[j]? = _
        by_cases hj : v = j
        · subst hj
          have h1 := List.getElem?_eq_none_iff.mp q
          rw [holes_length] at h1
          rw [List.getElem?_eq_none (by rw [wipe_length]; omega)] at f3
          cases f3
        · rw [List.getElem?_set_ne hj]; exact f3
      · exact .inr z
    | some s =>
      rw [q] at h
      rcases restore_listy hl vs h with z | z
      · obtain ⟨j, t, ys, f1, f2, f3⟩ := z
        by_cases hj : v = j
        · subst hj
          by_cases hl : v < env'.length
          · rw [List.getElem?_set_self hl] at f1
            cases f1
            obtain ⟨t', g1, g2⟩ := holes_lst vs q f2
            exact .inr ⟨v, t', ys, g1, g2, (wipe_some f3).1⟩
          · rw [List.getElem?_eq_none (by rw [List.length_set]; omega)] at f1
            cases f1
        · rw [List.getElem?_set_ne hj] at f1
          refine .inl ⟨j, t, ys, f1, f2, ?_⟩
          show ((wipe σ vs).set v none)[j]? = _
          rw [List.getElem?_set_ne hj]; exact f3
      · exact .inr z
theorem lendO_listy (src : Option Nat) (x : Aft M Z H (lendO src env) σ Z' H' env' σ') (h : Listy (unlendO src env env') σ' a) : Listy env' σ' a := by
  have key : ∀ (i : Nat) (s : Sl) (xs : List D), env[i]? = some s → s.mut? = some xs → Aft M Z H (env.set i (.lent xs)) σ Z' H' env' σ' → Listy (env'.set i s) σ' a → Listy env' σ' a := fun i s xs h hm x ⟨j, t, zs, f1, f2, f3⟩ => by
    have hi : i < env.length := (List.getElem?_eq_some_iff.mp h).1
    obtain ⟨ei, hi'⟩ := x.lents i xs (List.getElem?_set_self hi)
    obtain ⟨s', g1, g2, _⟩ := (alike_set (s' := s) hi' rfl (Sl.lst_of_mut (Sl.mc_of_mut hm).1) (Sl.ho_mut hm).symm).lst j t zs f1 f2
    exact ⟨j, s', zs, g1, g2, f3⟩
  unfold lendO at x
  unfold unlendO at h
  cases src with
  | none => exact h
  | some i =>
    simp only at x h
    split at x
    · rename_i xs q; rw [q] at h; exact key i _ xs q rfl x h
    · rename_i xs q; rw [q] at h; exact key i _ xs q rfl x h
    · rename_i h1 h2
      split at h
      · rename_i xs q; exact absurd q (h1 xs)
      · rename_i xs q; exact absurd q (h2 xs)
      · exact h
theorem lend_listy : ∀ (src : List Nat) {env env' : Ev}, Rep M Z H env σ → Aft M Z H (lendI src env) σ Z' H' env' σ' → Listy (unlendI src env env') σ' a → Listy env' σ' a
  | [], _, _, _, _, h => h
  | i :: is, _, _, r, x, h => lend_listy is (lendO_rep (some i) r) x (lendO_listy (some i) (lend_aft is (lendO_rep (some i) r) x) h)
end
section
variable {X : Cx} {W : WX}
theorem lc_ok {M : MC} {it : SI} {g : GT} {ts : List Nat} {c : SB} {s : SE} {vs : List Nat} {σ : SV} {H : Hp} {Q : VK} (hts : ∀ t ∈ ts, t ∈ vs) (h : tE M W (vComp it vs g c s) σ H Q) : tLc (tI M W it) (tG M g ts) (tT M W0 c) (tE M W0 s) vs σ H Q := by
  obtain ⟨Z, env, rep, h⟩ := h
  refine ⟨Z, env, rep, h.bindB.mono fun t e Z1 H1 x1 p J hJ D hD => comp_ok (lend_rep t.src x1.rep) hJ hD hts ?_⟩
  cases q : compL g c s vs t.items [] (holes vs (lendI t.src e)) with
  | bad => rw [q] at p; exact p.elim
  | exn x ee => rw [q] at p; exact p.elim
  | ok acc e3 =>
    rw [q] at p
    intro Z' H' ws x hp zp nl rp
    have y1 := unhide_all vs (lend_rep t.src x1.rep) x
    have y2 := lend_aft t.src x1.rep y1
    refine p Z' H' (x1.trans y2) (.ref D) ⟨D, ws, rfl, hp, zp, rp, ?_, fun z => ?_⟩
    · cases z : H D with
      | none => rfl
      | some o => exact absurd hD (x1.alive D (by rw [z]; simp))
    · rcases restore_listy (lend_rep t.src x1.rep).len vs (lend_listy t.src x1.rep y1 z) with z | z
      · exact nl z
      · exact z.ne (lend_rep t.src x1.rep) hD
theorem de_comp {elt tg iter : Expr} {ifs : List Expr} {scope : Scope} (own : List (Str × Nat)) {pos : Pos} {it : SI} {g : GT} {ts : List Nat} {c : SB} {s : SE} (hc : X.calm = true) (hN : X.N.Nodup) (hi : DI W X tg iter it) (ok : BlkOk X.N X.env.scope scope own)
    (hg : ∀ (s : Shared) (H : Hp) (C : Addr) (cl : List (Str × Addr)) (fp : List Addr), DG (X.blk s H scope (compEnvC scope cl C X.env) fp) tg g ts)
    (ht : ∀ (s : Shared) (H : Hp) (C : Addr) (cl : List (Str × Addr)) (fp : List Addr), DTs W0 (X.blk s H scope (compEnvC scope cl C X.env) fp) ifs c)
    (he : ∀ (s1 : Shared) (H : Hp) (C : Addr) (cl : List (Str × Addr)) (fp : List Addr), DE W0 (X.blk s1 H scope (compEnvC scope cl C X.env) fp) elt s) (hts : ∀ t ∈ ts, t ∈ own.map (·.2) := by decide) (hs : ∀ x, foldedSetIterable iter X.env x = pure x := by intro _; rfl) :
    DE W X (.ListComp elt [⟨tg, iter, ifs, 0⟩] scope pos) (vComp it (own.map (·.2)) g c s) :=
  weakE (pe_lc (own := own) (g := tG (mc X) g ts) (tt := tT (mc X) W0 c) (te := tE (mc X) W0 s) hc hN hi ok hg ht he hs) fun σ H Q h => lc_ok hts h
theorem ds_setC (i : Nat) {y : Str} {py : Pos} {elt tg iter : Expr} {ifs : List Expr} {scope : Scope} (own : List (Str × Nat)) {pos spos : Pos} {it : SI} {g : GT} {ts : List Nat} {c : SB} {s : SE} (hc : X.calm = true) (hN : X.N.Nodup) (hi : DI W X tg iter it) (ok : BlkOk X.N X.env.scope scope own)
    (hg : ∀ (s : Shared) (H : Hp) (C : Addr) (cl : List (Str × Addr)) (fp : List Addr), DG (X.blk s H scope (compEnvC scope cl C X.env) fp) tg g ts)
    (ht : ∀ (s : Shared) (H : Hp) (C : Addr) (cl : List (Str × Addr)) (fp : List Addr), DTs W0 (X.blk s H scope (compEnvC scope cl C X.env) fp) ifs c)
    (he : ∀ (s1 : Shared) (H : Hp) (C : Addr) (cl : List (Str × Addr)) (fp : List Addr), DE W0 (X.blk s1 H scope (compEnvC scope cl C X.env) fp) elt s)
    (hy : X.N[i]? = some y := by rfl) (hyl : X.env.scope.names.lookup y = some .local := by rfl)
    (hsw : swapsWith (.ListComp elt [⟨tg, iter, ifs, 0⟩] scope pos) (some (.Name y py)) spos.line X.env = pure true := by exact sw_true rfl rfl rfl (by decide +kernel))
    (hts : ∀ t ∈ ts, t ∈ own.map (·.2) := by decide) (hs : ∀ x, foldedSetIterable iter X.env x = pure x := by intro _; rfl) :
    DS W X (.Assign [.Name y py] (.ListComp elt [⟨tg, iter, ifs, 0⟩] scope pos) spos) (sSet i (vComp it (own.map (·.2)) g c s)) := by
  refine weakS (ps_setLc (own := own) (g := tG (mc X) g ts) (tt := tT (mc X) W0 c) (te := tE (mc X) W0 s) hc hN hy hyl hsw hi ok hg ht he hs) fun D σ H ⟨Z, env, rep, h⟩ => ?_
  have : tE (mc X) W (vComp it (own.map (·.2)) g c s) σ H (fun x H1 => gName i x σ H1 D.nx) := by
    refine ⟨Z, env, rep, h.bind.mono fun r e Z1 H1 x1 p v rr => ?_⟩
    cases q : stv i r e with
    | none => rw [q] at p; exact p.elim
    | some e2 =>
      rw [q] at p
      obtain ⟨Z2, x2⟩ := stv_ok x1 rr q
      exact p _ _ _ x2
  exact lc_ok hts this
end
/-! ### defs -/
def Sl.pinned : Sl → Sl
  | .pin xs => .pin xs
  | .wld S => .wld S
  | _ => .hole
def pinsOf : Nat → Ev → Ev
  | 0, _ => []
  | n + 1, [] => .hole :: pinsOf n []
  | n + 1, s :: e => s.pinned :: pinsOf n e
theorem pinsOf_length : ∀ (n : Nat) (e : Ev), (pinsOf n e).length = n
  | 0, _ => rfl
  | n + 1, [] => by rw [pinsOf, List.length_cons, pinsOf_length n]
  | n + 1, s :: e => by rw [pinsOf, List.length_cons, pinsOf_length n]
theorem pinsOf_get : ∀ (n : Nat) (e : Ev) (i : Nat) (s : Sl), (pinsOf n e)[i]? = some s → (s = .hole ∨ ∃ S, s = .wld S ∧ e[i]? = some (.wld S)) ∨ ∃ xs, s = .pin xs ∧ e[i]? = some (.pin xs)
  | 0, _, _, _, h => by cases h
  | n + 1, [], 0, s, h => by cases h; exact .inl (.inl rfl)
  | n + 1, [], i + 1, s, h => by
    rcases pinsOf_get n [] i s (by simpa [pinsOf] using h) with (z | ⟨xs, z, q⟩) | ⟨xs, z, q⟩
    · exact .inl (.inl z)
    · cases q
    · cases q
  | n + 1, t :: e, 0, s, h => by
    cases t with
    | pin xs => cases h; exact .inr ⟨xs, rfl, rfl⟩
    | wld xs => cases h; exact .inl (.inr ⟨xs, rfl, rfl⟩)
    | _ => cases h; exact .inl (.inl rfl)
  | n + 1, t :: e, i + 1, s, h => by
    rcases pinsOf_get n e i s (by simpa [pinsOf] using h) with (z | ⟨xs, z, q⟩) | ⟨xs, z, q⟩
    · exact .inl (.inl z)
    · exact .inl (.inr ⟨xs, z, by simpa using q⟩)
    · exact .inr ⟨xs, z, by simpa using q⟩
theorem pinsOf_wld : ∀ (n : Nat) (e : Ev) (i : Nat) (xs : List D), i < n → e[i]? = some (.wld xs) → (pinsOf n e)[i]? = some (.wld xs)
  | 0, _, _, _, h, _ => by omega
  | n + 1, [], _, _, _, h => by cases h
  | n + 1, t :: e, 0, xs, _, h => by cases h; rfl
  | n + 1, t :: e, i + 1, xs, hi, h => by
    have := pinsOf_wld n e i xs (by omega) (by simpa using h)
    simpa [pinsOf] using this
theorem pinsOf_w {n : Nat} {e : Ev} {i : Nat} {S : List D} (h : (pinsOf n e)[i]? = some (.wld S)) : e[i]? = some (.wld S) := by
  rcases pinsOf_get _ _ _ _ h with (z | ⟨xs, z, q⟩) | ⟨xs, z, q⟩
  · cases z
  · cases z; exact q
  · cases z
theorem Sl.not_mut {s : Sl} {P : List D → Prop} {xs : List D} (h : s = .hole ∨ (∃ S, s = .wld S ∧ P S)) (k : s.cel? = some xs) : False := by
  rcases h with z | ⟨S, z, _⟩ <;> (subst z; cases k)
theorem pinsOf_pin : ∀ (n : Nat) (e : Ev) (i : Nat) (xs : List D), i < n → e[i]? = some (.pin xs) → (pinsOf n e)[i]? = some (.pin xs)
  | 0, _, _, _, h, _ => by omega
  | n + 1, [], _, _, _, h => by cases h
  | n + 1, t :: e, 0, xs, _, h => by cases h; rfl
  | n + 1, t :: e, i + 1, xs, hi, h => by
    have := pinsOf_pin n e i xs (by omega) (by simpa using h)
    simpa [pinsOf] using this
def Sl.arg : Sl → Bool
  | .val _ => true
  | .pin _ => true
  | .wld _ => true
  | _ => false
def bodyRun (N : Nat) (b : SS) : Ev → Out R := fun env => if env.all Sl.arg then (match b (env ++ List.replicate (N - env.length) .hole) with
  | .ok .nx e => .ok (.val .non) (pinsOf env.length e)
  | .ok (.rt r) e => .ok r (pinsOf env.length e)
  | .exn x e => .exn x (pinsOf env.length e)
  | _ => .bad) else .bad
def spF (M : MC) (n : Nat) (run : Ev → Out R) : Sp := fun vs H Q E => vs.length = n ∧ tE M (fun c d _ H => E c d H) run (vs.map some) H Q
section
variable {M : MC} {Z H Z' H' : Hp} {env e : Ev} {σ σ' : SV} {v : V} {r : R} {m : Nat}
theorem app_hole {i : Nat} {s : Sl} {m : Nat} (h : (env ++ List.replicate m Sl.hole)[i]? = some s) : (i < env.length ∧ env[i]? = some s) ∨ s = .hole := by
  by_cases hi : i < env.length
  · rw [List.getElem?_append_left hi] at h; exact .inl ⟨hi, h⟩
  · rw [List.getElem?_append_right (by omega)] at h
    right
    have := List.mem_of_getElem? h
    exact (List.mem_replicate.mp this).2
theorem app_w {i : Nat} {S : List D} {m : Nat} (h : (env ++ List.replicate m Sl.hole)[i]? = some (.wld S)) : env[i]? = some (.wld S) := by
  rcases app_hole h with ⟨_, h⟩ | z
  · exact h
  · cases z
theorem rep_start (r : Rep M Z H env σ) : Rep M Z H (env ++ List.replicate m Sl.hole) (σ ++ List.replicate m none) := by
  refine ⟨by simp [r.len], r.sub, fun i d h => ?_, fun i s xs h1 h2 => ?_, fun i j si sj xi xj a h1 h2 h3 h4 h5 h6 => ?_, fun i S h => r.wld i S (app_w h), fun i j S T h1 h2 => r.wone i j S T (app_w h1) (app_w h2)⟩
  · rcases app_hole h with ⟨hi, h⟩ | z
    · rw [List.getElem?_append_left (by rw [← r.len]; exact hi)]; exact r.val i d h
    · cases z
  · rcases app_hole h1 with ⟨hi, h⟩ | z
    · rw [List.getElem?_append_left (by rw [← r.len]; exact hi)]; exact r.lst i s xs h h2
    · subst z; cases h2
  · rcases app_hole h1 with ⟨hi, h1⟩ | z
    · rcases app_hole h2 with ⟨hj, h2⟩ | z
      · rw [List.getElem?_append_left (by rw [← r.len]; exact hi)] at h5
        rw [List.getElem?_append_left (by rw [← r.len]; exact hj)] at h6
        exact r.apart i j si sj xi xj a h1 h2 h3 h4 h5 h6
      · subst z; cases h4
    · subst z; cases h3
theorem owned_start (r : Rep M Z H env σ) {a : Addr} : Owned (env ++ List.replicate m Sl.hole) (σ ++ List.replicate m none) a ↔ Owned env σ a := by
  constructor
  · intro ⟨i, s, xs, h1, h2, h3⟩
    rcases app_hole h1 with ⟨hi, h⟩ | z
    · rw [List.getElem?_append_left (by rw [← r.len]; exact hi)] at h3; exact ⟨i, s, xs, h, h2, h3⟩
    · subst z; cases h2
  · intro ⟨i, s, xs, h1, h2, h3⟩
    have hi : i < env.length := (List.getElem?_eq_some_iff.mp h1).1
    exact ⟨i, s, xs, by rw [List.getElem?_append_left hi]; exact h1, h2, by rw [List.getElem?_append_left (by rw [← r.len]; exact hi)]; exact h3⟩
theorem aft_end (r : Rep M Z H env σ) (ha : env.all Sl.arg = true) (x : Aft M Z H (env ++ List.replicate m Sl.hole) (σ ++ List.replicate m none) Z' H' e σ') : Aft M Z H env σ Z' H' (pinsOf env.length e) σ := by
  -- a pin within is a pin ahead, at its address
  have pin : ∀ (i : Nat) (xs : List D), e[i]? = some (.pin xs) → i < env.length ∧ σ'[i]? = σ[i]? ∧ ∃ s, env[i]? = some s ∧ s.isPin = true := fun i xs h => by
    obtain ⟨s, h1, h2⟩ := x.unpin i _ h rfl
    obtain ⟨e1, _⟩ := x.pins i s h1 h2
    rcases app_hole h1 with ⟨hi, h⟩ | z
    · rw [List.getElem?_append_left (by rw [← r.len]; exact hi)] at e1
      exact ⟨hi, e1, s, h, h2⟩
    · subst z; cases h2
  have nw : NoW env → NoW (env ++ List.replicate m Sl.hole) := fun n i S e => n i S (app_w e)
  have wkk : WK Z H env Z' H' (pinsOf env.length e) := ⟨fun i S h => by
    have hi : i < env.length := (List.getElem?_eq_some_iff.mp h).1
    obtain ⟨T, hT⟩ := x.wk.has i S (by rw [List.getElem?_append_left hi]; exact h)
    exact ⟨T, pinsOf_wld _ _ _ _ hi hT⟩, fun i S h => by
    obtain ⟨T, hT⟩ := x.wk.was i S (pinsOf_w h)
    exact ⟨T, app_w hT⟩, fun n => x.wk.tags (nw n), fun n => x.wk.kept (nw n)⟩
  refine ⟨⟨by rw [pinsOf_length]; exact r.len, x.rep.sub, fun i d h => ?_, fun i s xs h1 h2 => ?_, fun i j si sj xi xj a h1 h2 h3 h4 h5 h6 => ?_, fun i S h => x.rep.wld i S (pinsOf_w h), fun i j S T h1 h2 => x.rep.wone i j S T (pinsOf_w h1) (pinsOf_w h2)⟩, x.sub, fun a h1 h2 h3 => x.kept a h1 (fun z => h2 ((owned_start r).mp z)) h3, x.alive, fun a h => ?_, fun i s h1 h2 => ?_, fun i s h1 h2 => ?_, fun i xs h1 => ?_, fun i xs h1 => ?_, wkk⟩
  · rcases pinsOf_get _ _ _ _ h with (z | ⟨xs, z, _⟩) | ⟨xs, z, _⟩ <;> cases z
  · rcases pinsOf_get _ _ _ _ h1 with z | ⟨ys, z, q⟩
    · exact (Sl.not_mut z h2).elim
    · subst z
      cases h2
      obtain ⟨hi, e1, _⟩ := pin i xs q
      rw [← e1]
      exact x.rep.lst i _ xs q rfl
  · rcases pinsOf_get _ _ _ _ h1 with z | ⟨ys, z, q⟩
    · exact (Sl.not_mut z h3).elim
    · rcases pinsOf_get _ _ _ _ h2 with z' | ⟨zs, z', q'⟩
      · exact (Sl.not_mut z' h4).elim
      · subst z; subst z'
        obtain ⟨_, e1, _⟩ := pin i ys q
        obtain ⟨_, e2, _⟩ := pin j zs q'
        exact x.rep.apart i j _ _ ys zs a q q' rfl rfl (by rw [e1]; exact h5) (by rw [e2]; exact h6)
  · obtain ⟨i, s, xs, h1, h2, h3⟩ := h
    rcases pinsOf_get _ _ _ _ h1 with z | ⟨ys, z, q⟩
    · exact (Sl.not_mut z (Sl.lst_of_mut h2)).elim
    · subst z
      obtain ⟨_, e1, _⟩ := pin i ys q
      rcases x.owned a ⟨i, _, ys, q, rfl, by rw [e1]; exact h3⟩ with z | z
      · exact .inl ((owned_start r).mp z)
      · exact .inr z
  · have hi : i < env.length := (List.getElem?_eq_some_iff.mp h1).1
    obtain ⟨_, s', h', p'⟩ := x.pins i s (by rw [List.getElem?_append_left hi]; exact h1) h2
    cases s' with
    | pin ys => exact ⟨rfl, _, pinsOf_pin _ _ _ _ hi h', rfl⟩
    | _ => cases p'
  · rcases pinsOf_get _ _ _ _ h1 with (z | ⟨S, z, _⟩) | ⟨ys, z, q⟩
    · subst z; cases h2
    · subst z; cases h2
    · obtain ⟨_, _, s, h, p⟩ := pin i ys q
      exact ⟨s, h, p⟩
  · have := List.all_eq_true.mp ha _ (List.mem_of_getElem? h1)
    cases this
  · rcases pinsOf_get _ _ _ _ h1 with (z | ⟨S, z, _⟩) | ⟨ys, z, q⟩ <;> cases z
theorem rr_end (rp : Rep M Z H env σ) (ha : env.all Sl.arg = true) (x : Aft M Z H (env ++ List.replicate m Sl.hole) (σ ++ List.replicate m none) Z' H' e σ') (q : RT M Z' H' e σ' H v r) : RR M Z' H' (pinsOf env.length e) σ H v r := by
  have y := aft_end rp ha x
  have pl : ∀ a, Listy (pinsOf env.length e) σ a → ∃ (i : Nat) (xs : List D), e[i]? = some (.pin xs) ∧ σ'[i]? = some (some (V.ref a)) ∧ Owned env σ a := fun a ⟨i, s, xs, h1, h2, h3⟩ => by
    rcases pinsOf_get _ _ _ _ h1 with z | ⟨ys, z, q⟩
    · exact (Sl.not_mut z h2).elim
    · subst z
      obtain ⟨s, f1, f2⟩ := x.unpin i _ q rfl
      obtain ⟨e1, _⟩ := x.pins i s f1 f2
      rcases app_hole f1 with ⟨hi, h⟩ | z
      · rw [List.getElem?_append_left (by rw [← rp.len]; exact hi)] at e1
        cases s with
        | pin zs => exact ⟨i, ys, q, e1.trans h3, i, _, zs, h, rfl, h3⟩
        | _ => cases f2
      · subst z; cases f2
  cases r with
  | val d => exact q
  | «at» i => exact q.elim
  | liv i => exact q.elim
  | new xs =>
    obtain ⟨p, vs, e1, e2, e3, e4, e5⟩ := q
    rcases e5 with ⟨e5, e6⟩ | ⟨i, e5, e6⟩
    · refine ⟨p, vs, e1, e2, e3, e4, e5, fun z => ?_⟩
      obtain ⟨j, ys, f1, f2, _⟩ := pl p z
      exact e6 ⟨j, _, ys, f1, rfl, f2⟩
    · have np : ¬ Listy (pinsOf env.length e) σ p := fun z => by
        obtain ⟨j, ys, f1, f2, _⟩ := pl p z
        have := x.rep.apart i j _ _ xs ys p e5 f1 rfl rfl e6 f2
        subst this
        rw [e5] at f1
        cases f1
      refine ⟨p, vs, e1, e2, e3, e4, ?_, np⟩
      rcases x.owned p ⟨i, _, xs, e5, rfl, e6⟩ with z | z
      · exfalso
        obtain ⟨j, s, zs, f1, f2, f3⟩ := (owned_start rp).mp z
        have hj : j < env.length := (List.getElem?_eq_some_iff.mp f1).1
        have hs : s.isPin = true := by
          have := List.all_eq_true.mp ha _ (List.mem_of_getElem? f1)
          cases s with
          | pin _ => rfl
          | val _ => cases f2
          | wld _ => cases f2
          | _ => cases this
        obtain ⟨_, s', g1, g2⟩ := y.pins j s f1 hs
        cases s' with
        | pin ys => exact np ⟨j, _, ys, g1, rfl, f3⟩
        | _ => cases g2
      · exact z
end
section
variable {P : Program} {w : World} {K : PySem.W.Frag} {mg : Str → Option Value} {base : Heap}
theorem takes0N {X : Cx} : L2N.Takes X (fun _ _ _ _ => False) := fun _ _ x => by
  obtain ⟨_, _, _, _, _, _, _, _, _, _, _, _, _, _, _, _, z⟩ := x
  exact z.elim
/-- a def that may raise, each exception's context None -/
theorem okN {x qual : Str} {st : Stmt} {f : Addr} {fd : FuncData} {N ps : List Str} {k : Nat} {sp : Sp} (F : Fun K x qual st f fd) (S : FnScope N ps (defScope st)) (len : ∀ vs H Q E, sp vs H Q E → vs.length = ps.length)
    (hbody : ∀ (cdv : Value) (A : Around) (outer : List Env) (s : Shared) (H : Hp) (vs : List V) (Q : VK) (E : XK), Room k (A.deeper (PyProof.Rows.envOfC qual (defScope st) s.heap.objs.size f cdv)) → sp vs H Q E →
      ∃ t, PSs (cxOf (L2N.CX P w) P w K mg base N qual (defScope st) f cdv A outer s H E) (defBody st) t ∧ t { nx := fun _ H' => Q .non H', rt := Q } (L2.start N vs) H) : FnOk P w K mg base (L2N.CX P w) (k + 1) f fd ps sp := by
  obtain ⟨oc, od, kV, doc, pm, an, cdv, ct, osl, rfl, lk, hcd⟩ := F.ex
  exact fn_of lk hcd S len fun A outer s H vs Q E hr hsp => hbody cdv A outer s H vs Q E hr hsp
theorem fnD {x qual : Str} {st : Stmt} {f : Addr} {fd : FuncData} {N ps : List Str} {k n : Nat} {b : SS} (F : Fun K x qual st f fd) (S : FnScope N ps (defScope st)) (hn : ps.length = n)
    (hbody : ∀ (cdv : Value) (A : Around) (outer : List Env) (s : Shared) (H : Hp) (E : XK), Room k (A.deeper (PyProof.Rows.envOfC qual (defScope st) s.heap.objs.size f cdv)) →
      DSs (fun c d _ H => E c d H) (cxOf (L2N.CX P w) P w K mg base N qual (defScope st) f cdv A outer s H E) (defBody st) b) :
    FnOk P w K mg base (L2N.CX P w) (k + 1) f fd ps (spF ⟨K, mg, P, w⟩ n (bodyRun N.length b)) := by
  refine okN F S (fun vs H Q E h => h.1.trans hn.symm) fun cdv A outer s H vs Q E hr ⟨hl, Z, env, rep, h⟩ => ⟨_, hbody cdv A outer s H E hr, Z, env ++ List.replicate (N.length - env.length) Sl.hole, ?_, ?_⟩
  · have e : env.length = vs.length := by rw [rep.len, List.length_map]
    unfold L2.start
    rw [e]
    exact rep_start rep
  · have e : env.length = vs.length := by rw [rep.len, List.length_map]
    unfold bodyRun at h
    by_cases ha : env.all Sl.arg = true
    · rw [if_pos ha] at h
      unfold L2.start
      rw [e] at h ⊢
      cases q : b (env ++ List.replicate (N.length - vs.length) Sl.hole) with
      | bad => rw [q] at h; exact h.elim
      | exn xx e1 =>
        rw [q] at h
        exact fun cv d σ' Z' H' x xr => h cv d Z' H' (by rw [← e]; exact aft_end rep ha x) xr
      | ok f e1 =>
        rw [q] at h
        cases f with
        | nx => exact fun σ' Z' H' x => h Z' H' (by rw [← e]; exact aft_end rep ha x) .non .non
        | rt r => exact fun v σ' Z' H' x rt => h Z' H' (by rw [← e]; exact aft_end rep ha x) v (by rw [← e]; exact rr_end rep ha x rt)
        | bk => exact h.elim
        | ct => exact h.elim
    · rw [if_neg ha] at h; exact h.elim
end
end DV
namespace DV
open PySem PySem.Spec L2
/-! ### calls of defs -/
inductive Md where
  | lend | pin | frz
  deriving DecidableEq
structure FSem where
  modes : List Md
  run : Ev → Out R
mutual
def D.lf : D → Bool
  | .lst _ => false
  | .scr _ => false
  | .tup xs => lfs xs
  | .obj _ _ ds => lfs ds
  | .exc _ _ ds => lfs ds
  | _ => true
def lfs : List D → Bool
  | [] => true
  | d :: ds => D.lf d && lfs ds
end
def R.lf : R → Bool
  | .val d => d.lf
  | .new xs => lfs xs
  | .at _ => false
  | .liv _ => false
def preOne (m : Md) (r : R) (e : Ev) : Option (R × Ev) := match m, r with
  | .frz, r => (r.esc e).map fun (p : D × Ev) => (R.val p.1, p.2)
  | .lend, .new xs => some (.val (.lst xs), e)
  | _, r => some (r, e)
def pre : List Md → List R → Ev → Option (List R × Ev)
  | [], [], e => some ([], e)
  | m :: ms, r :: rs, e => match preOne m r e with
    | some (r', e1) => match pre ms rs e1 with
      | some (rs', e2) => some (r' :: rs', e2)
      | none => none
    | none => none
  | _, _, _ => none
def argSl : Md → R → Ev → Option Sl
  | .pin, .new xs, _ => some (.pin xs)
  | .pin, .at i, e => match e[i]? with
    | some (.own xs) => some (.pin xs)
    | some (.pin xs) => some (.pin xs)
    | _ => none
  | .pin, _, _ => none
  | _, .val d, _ => some (.val d)
  | _, .at i, e => match e[i]? with
    | some (.val d) => some (.val d)
    | some s => s.lst?.map fun xs => .val (.lst xs)
    | none => none
  | _, _, _ => none
def mkArgs : List Md → List R → Ev → Option Ev
  | [], [], _ => some []
  | m :: ms, r :: rs, e => match argSl m r e, mkArgs ms rs e with
    | some s, some ss => some (s :: ss)
    | _, _ => none
  | _, _, _ => none
/-- the slots handed over to be changed; lent -/
def pinIx : List Md → List R → List Nat
  | .pin :: ms, .at i :: rs => i :: pinIx ms rs
  | _ :: ms, _ :: rs => pinIx ms rs
  | _, _ => []
def lendIx : List Md → List R → Ev → List Nat
  | .pin :: ms, _ :: rs, e => lendIx ms rs e
  | _ :: ms, .at i :: rs, e => match e[i]? with
    | some (.val _) => lendIx ms rs e
    | _ => i :: lendIx ms rs e
  | _ :: ms, _ :: rs, e => lendIx ms rs e
  | _, _, _ => []
def noClash (ps ls : List Nat) : Bool := match ps with
  | [] => true
  | p :: ps => !ps.elem p && !ls.elem p && noClash ps ls
def Sl.re : Sl → List D → Sl
  | .own _, ys => .own ys
  | .pin _, ys => .pin ys
  | s, _ => s
def back : List Md → List R → Ev → Ev → Option Ev
  | .pin :: ms, .at i :: rs, .pin ys :: cs, e => match e[i]? with
    | some s => back ms rs cs (e.set i (s.re ys))
    | none => none
  | .pin :: _, .at _ :: _, _ :: _, _ => none
  | _ :: ms, _ :: rs, _ :: cs, e => back ms rs cs e
  | [], [], [], e => some e
  | _, _, _, _ => none
def pinsLf : Ev → Bool
  | .pin xs :: e => lfs xs && pinsLf e
  | _ :: e => pinsLf e
  | [] => true
def R.isAt : R → Bool
  | .at _ => true
  | .liv _ => true
  | _ => false
def callR (F : FSem) (rs : List R) (e : Ev) : Out R := match pre F.modes rs e with
  | none => .bad
  | some (rs1, e1) => match mkArgs F.modes rs1 e1 with
    | none => .bad
    | some ce => if noClash (pinIx F.modes rs1) (lendIx F.modes rs1 e1) then (match F.run ce with
        | .ok r ce' => if r.isAt then .bad else if (lendIx F.modes rs1 e1).isEmpty || (r.lf && pinsLf ce') then (match back F.modes rs1 ce' e1 with
            | some e2 => .ok r e2
            | none => .bad) else .bad
        | .exn x ce' => if (lendIx F.modes rs1 e1).isEmpty || (lfs x.ds && pinsLf ce') then (match back F.modes rs1 ce' e1 with
            | some e2 => .exn x e2
            | none => .bad) else .bad
        | .bad => .bad) else .bad
def vCall (F : FSem) (t : SL) : SE := fun env => (t env).bind fun rs e => callR F rs e
section
variable {M : MC} {W : WX} {Z H Z' H' Z1 H1 Z2 H2 H0 : Hp} {env env' env1 env2 : Ev} {σ σ' σ1 σ2 : SV} {v : V} {d : D} {r : R} {a : Addr}
/-- data without lists lean on no list -/
def Less (Z Z2 : Hp) : Prop := ∀ a o, Z a = some o → (∀ vs, o ≠ .lst vs) → Z2 a = some o
theorem TupK.less {K : PySem.W.Frag} {vs : List V} (e : Less Z Z2) (h : TupK K Z a vs) : TupK K Z2 a vs := by
  rcases h with ⟨o, h, d⟩ | h
  · exact .inl ⟨o, e _ _ h fun vs z => by (cases z), d⟩
  · exact .inr h
mutual
theorem Rp.less (e : Less Z Z2) : ∀ {v : V} {d : D}, Rp M Z v d → d.lf = true → Rp M Z2 v d
  | _, _, .non, _ => .non
  | _, _, .bl b, _ => .bl b
  | _, _, .int b, _ => .int b
  | _, _, .str b, _ => .str b
  | _, _, .tup h r, l => .tup (h.less e) (Rps.less e r (by simpa [D.lf] using l))
  | _, _, .lst h r, l => by simp [D.lf] at l
  | _, _, .scr h r, l => by simp [D.lf] at l
  | _, _, .obj h m k r, l => .obj (e _ _ h fun vs z => by cases z) m k (Rps.less e r (by simpa [D.lf] using l))
  | _, _, .ref h, _ => .ref (e _ _ h fun vs z => by cases z)
  | _, _, .exc h m q k r, l => .exc (e _ _ h fun vs z => by cases z) m (q.imp_right fun ⟨dd, h1, h2⟩ => ⟨dd, h1, e _ _ h2 fun vs z => by cases z⟩) k (Rps.less e r (by simpa [D.lf] using l))
theorem Rps.less (e : Less Z Z2) : ∀ {v : List V} {d : List D}, Rps M Z v d → lfs d = true → Rps M Z2 v d
  | _, _, .nil, _ => .nil
  | _, _, .cons h r, l => by
    simp only [lfs, Bool.and_eq_true] at l
    exact .cons (Rp.less e h l.1) (Rps.less e r l.2)
end
theorem mem_news_pre : ∀ {ms : List Md} {vs : List V} {rs rs' : List R} {e e' : Ev} {w : V}, pre ms rs e = some (rs', e') → w ∈ news vs rs' → w ∈ news vs rs := by
  intro ms
  induction ms with
  | nil =>
    intro vs rs rs' e e' w h hm
    cases rs with
    | nil => cases h; exact hm
    | cons _ _ => cases h
  | cons m ms ih =>
    intro vs rs rs' e e' w h hm
    cases rs with
    | nil => cases h
    | cons r rs =>
      unfold pre at h
      cases q : preOne m r e with
      | none => rw [q] at h; cases h
      | some p =>
        obtain ⟨r', e1⟩ := p
        rw [q] at h
        simp only at h
        cases q2 : pre ms rs e1 with
        | none => rw [q2] at h; cases h
        | some p2 =>
          obtain ⟨rs2, e2⟩ := p2
          rw [q2] at h
          cases h
          cases vs with
          | nil => cases r' <;> cases hm
          | cons v vs =>
            have tail : w ∈ news vs rs2 → w ∈ news (v :: vs) (r :: rs) := fun hm => by
              have := ih q2 hm
              cases r with
              | val d => exact this
              | «at» i => exact this
              | liv i => exact this
              | new xs => exact List.mem_cons_of_mem _ this
            cases r' with
            | val d => exact tail hm
            | «at» i => exact tail hm
            | liv i => exact tail hm
            | new xs =>
              rcases List.mem_cons.mp hm with z | z
              · have : r.isNew = true := by
                  cases m with
                  | frz =>
                    have q : (r.esc e).map (fun (p : D × Ev) => (R.val p.1, p.2)) = _ := q
                    cases qq : r.esc e with
                    | none => rw [qq] at q; cases q
                    | some pp => rw [qq] at q; cases q
                  | lend =>
                    cases r with
                    | val d => cases q
                    | «at» i => cases q
                    | liv i => cases q
                    | new ys => cases q
                  | pin =>
                    cases r with
                    | val d => cases q
                    | «at» i => cases q
                    | liv i => cases q
                    | new ys => rfl
                cases r with
                | val d => cases this
                | «at» i => cases this
                | liv i => cases this
                | new ys => rw [z]; exact List.mem_cons_self
              · exact tail z
theorem pre_ok (h0 : ∀ a, H0 a ≠ none → H a ≠ none) : ∀ {ms : List Md} {vs : List V} {rs rs' : List R} {Z : Hp} {env env' : Ev}, RRs M Z H env σ H0 vs rs → Rep M Z H env σ → pre ms rs env = some (rs', env') →
    ∃ Z', RRs M Z' H env' σ H0 vs rs' ∧ AftE M H0 Z H env σ Z' env' ∧ ∀ b, ¬ Listy env σ b → V.ref b ∉ news vs rs → Z' b = Z b := by
  intro ms
  induction ms with
  | nil =>
    intro vs rs rs' Z env env' hr rep h
    cases rs with
    | nil => cases h; exact ⟨Z, hr, .refl rep, fun _ _ _ => rfl⟩
    | cons _ _ => cases h
  | cons m ms ih =>
    intro vs rs rs' Z env env' hr rep h
    cases rs with
    | nil => cases h
    | cons r rs =>
      cases vs with
      | nil => exact hr.elim
      | cons v vs =>
        obtain ⟨h1, h2, h3⟩ := hr
        unfold pre at h
        cases q : preOne m r env with
        | none => rw [q] at h; cases h
        | some p =>
          obtain ⟨r', e1⟩ := p
          rw [q] at h
          simp only at h
          cases q2 : pre ms rs e1 with
          | none => rw [q2] at h; cases h
          | some p2 =>
            obtain ⟨rs2, e2⟩ := p2
            rw [q2] at h
            cases h
            -- the first
            have first : ∃ Z1, RR M Z1 H e1 σ H0 v r' ∧ AftE M H0 Z H env σ Z1 e1 ∧ (∀ b, ¬ Listy env σ b → (r.isNew = true → v ≠ .ref b) → Z1 b = Z b) ∧ (r'.isNew = true → r.isNew = true ∧ Z1 = Z ∧ e1 = env) := by
              have esc : ∀ d e', r.esc env = some (d, e') → ∃ Z1, RR M Z1 H e' σ H0 v (.val d) ∧ AftE M H0 Z H env σ Z1 e' ∧ (∀ b, ¬ Listy env σ b → (r.isNew = true → v ≠ .ref b) → Z1 b = Z b) := fun d e' qq => by
                obtain ⟨Z1, a1, a2, a3⟩ := RR.escape2 h1 rep h0 qq
                exact ⟨Z1, a1, a2, a3⟩
              cases m with
              | frz =>
                have q : (r.esc env).map (fun (p : D × Ev) => (R.val p.1, p.2)) = _ := q
                cases qq : r.esc env with
                | none => rw [qq] at q; cases q
                | some pp =>
                  rw [qq] at q
                  cases q
                  obtain ⟨Z1, a1, a2, a3⟩ := esc pp.1 pp.2 qq
                  exact ⟨Z1, a1, a2, a3, fun z => by cases z⟩
              | lend =>
                cases r with
                | val d => cases q; exact ⟨Z, h1, .refl rep, fun _ _ _ => rfl, fun z => by cases z⟩
                | «at» i => cases q; exact ⟨Z, h1, .refl rep, fun _ _ _ => rfl, fun z => by cases z⟩
                | liv i => cases q; exact ⟨Z, h1, .refl rep, fun _ _ _ => rfl, fun z => by cases z⟩
                | new xs =>
                  cases q
                  obtain ⟨Z1, a1, a2, a3⟩ := esc _ _ rfl
                  exact ⟨Z1, a1, a2, a3, fun z => by cases z⟩
              | pin =>
                cases r with
                | val d => cases q; exact ⟨Z, h1, .refl rep, fun _ _ _ => rfl, fun z => by cases z⟩
                | «at» i => cases q; exact ⟨Z, h1, .refl rep, fun _ _ _ => rfl, fun z => by cases z⟩
                | liv i => cases q; exact ⟨Z, h1, .refl rep, fun _ _ _ => rfl, fun z => by cases z⟩
                | new xs => cases q; exact ⟨Z, h1, .refl rep, fun _ _ _ => rfl, fun z => ⟨rfl, rfl, rfl⟩⟩
            obtain ⟨Z1, f1, f2, f3, f4⟩ := first
            have h3' : RRs M Z1 H e1 σ H0 vs rs := RRs.stayE f2 rep h3 fun a ha => f3 a (RRs.unlisty h3 ha) fun n z => h2 n (by rw [z]; exact ha)
            obtain ⟨Z2, g1, g2, g3⟩ := ih h3' f2.rep q2
            have li : ∀ b, Listy e1 σ b → Listy env σ b := fun b ⟨i, s, xs, k1, k2, k3⟩ => by
              rcases Sl.mut_or k2 with z | z
              · exact (f2.owned b ⟨i, s, xs, k1, z, k3⟩).listy
              · subst z
                exact ⟨i, _, xs, (f2.lents i xs).mpr k1, k2, k3⟩
            refine ⟨Z2, ⟨f1.stayE g2 f2.rep fun a ea hn => ?_, fun hn hm => ?_, g1⟩, f2.trans g2, fun b hb hm => ?_⟩
            · obtain ⟨n1, n2, n3⟩ := f4 hn
              refine g3 a (fun z => ?_) fun z => h2 n1 (by rw [ea]; exact z)
              cases r with
              | val _ => cases n1
              | «at» _ => cases n1
              | liv _ => cases n1
              | new xs =>
                obtain ⟨p, ws, k1, k2, k3, k4, k5, k6⟩ := h1
                rw [ea] at k1
                cases k1
                exact k6 (li a z)
            · exact h2 (f4 hn).1 (mem_news_pre q2 hm)
            · have t1 : V.ref b ∉ news vs rs := fun z => hm (by
                cases r with
                | val _ => exact z
                | «at» _ => exact z
                | liv _ => exact z
                | new xs => exact List.mem_cons_of_mem _ z)
              have t2 : r.isNew = true → v ≠ .ref b := fun n z => hm (by
                cases r with
                | val _ => cases n
                | «at» _ => cases n
                | liv _ => cases n
                | new xs => rw [← z]; exact List.mem_cons_self)
              exact (g3 b (fun z => hb (li b z)) t1).trans (f3 b hb t2)
theorem mkArgs_get : ∀ {ms : List Md} {rs : List R} {e ce : Ev} {k : Nat} {s : Sl}, mkArgs ms rs e = some ce → ce[k]? = some s → ∃ m r, ms[k]? = some m ∧ rs[k]? = some r ∧ argSl m r e = some s := by
  intro ms
  induction ms with
  | nil =>
    intro rs e ce k s h hk
    cases rs with
    | nil => cases h; cases hk
    | cons _ _ => cases h
  | cons m ms ih =>
    intro rs e ce k s h hk
    cases rs with
    | nil => cases h
    | cons r rs =>
      unfold mkArgs at h
      cases q1 : argSl m r e with
      | none => rw [q1] at h; cases h
      | some t =>
        cases q2 : mkArgs ms rs e with
        | none => rw [q1, q2] at h; cases h
        | some ts =>
          rw [q1, q2] at h
          cases h
          cases k with
          | zero => cases hk; exact ⟨m, r, rfl, rfl, q1⟩
          | succ k =>
            obtain ⟨m', r', a1, a2, a3⟩ := ih q2 (by simpa using hk)
            exact ⟨m', r', by simpa using a1, by simpa using a2, a3⟩
theorem mkArgs_all : ∀ {ms : List Md} {rs : List R} {e ce : Ev} {k : Nat} {m : Md} {r : R}, mkArgs ms rs e = some ce → ms[k]? = some m → rs[k]? = some r → ∃ s, ce[k]? = some s ∧ argSl m r e = some s := by
  intro ms
  induction ms with
  | nil => intro rs e ce k m r h h1 h2; cases h1
  | cons m ms ih =>
    intro rs e ce k m' r' h h1 h2
    cases rs with
    | nil => cases h
    | cons r rs =>
      unfold mkArgs at h
      cases q1 : argSl m r e with
      | none => rw [q1] at h; cases h
      | some t =>
        cases q2 : mkArgs ms rs e with
        | none => rw [q1, q2] at h; cases h
        | some ts =>
          rw [q1, q2] at h
          cases h
          cases k with
          | zero => cases h1; cases h2; exact ⟨t, rfl, q1⟩
          | succ k =>
            obtain ⟨s, a1, a2⟩ := ih q2 (by simpa using h1) (by simpa using h2)
            exact ⟨s, by simpa using a1, a2⟩
theorem mkArgs_len : ∀ {ms : List Md} {rs : List R} {e ce : Ev}, mkArgs ms rs e = some ce → ce.length = rs.length ∧ ms.length = rs.length := by
  intro ms
  induction ms with
  | nil =>
    intro rs e ce h
    cases rs with
    | nil => cases h; exact ⟨rfl, rfl⟩
    | cons _ _ => cases h
  | cons m ms ih =>
    intro rs e ce h
    cases rs with
    | nil => cases h
    | cons r rs =>
      unfold mkArgs at h
      cases q1 : argSl m r e with
      | none => rw [q1] at h; cases h
      | some t =>
        cases q2 : mkArgs ms rs e with
        | none => rw [q1, q2] at h; cases h
        | some ts =>
          rw [q1, q2] at h
          cases h
          obtain ⟨a, b⟩ := ih q2
          exact ⟨by simp [a], by simp [b]⟩
theorem RRs.get : ∀ {vs : List V} {rs : List R} {k : Nat} {r : R}, RRs M Z H env σ H0 vs rs → rs[k]? = some r → ∃ v, vs[k]? = some v ∧ RR M Z H env σ H0 v r
  | [], [], _, _, _, h => by cases h
  | v :: vs, r :: rs, 0, _, ⟨h1, _, _⟩, h => by cases h; exact ⟨v, rfl, h1⟩
  | v :: vs, r :: rs, k + 1, r', ⟨_, _, h3⟩, h => by
    obtain ⟨w, a1, a2⟩ := RRs.get (k := k) (r := r') h3 (by simpa using h)
    exact ⟨w, by simpa using a1, a2⟩
theorem RRs.mem_news : ∀ {vs : List V} {rs : List R} {k : Nat} {xs : List D} {v : V}, RRs M Z H env σ H0 vs rs → rs[k]? = some (.new xs) → vs[k]? = some v → v ∈ news vs rs
  | [], [], _, _, _, _, h, _ => by cases h
  | v :: vs, r :: rs, 0, xs, w, _, h, h' => by cases h; cases h'; exact List.mem_cons_self
  | v :: vs, r :: rs, k + 1, xs, w, ⟨_, _, h3⟩, h, h' => by
    have := RRs.mem_news (k := k) (xs := xs) (v := w) h3 (by simpa using h) (by simpa using h')
    cases r with
    | val _ => exact this
    | «at» _ => exact this
    | liv _ => exact this
    | new _ => exact List.mem_cons_of_mem _ this
theorem RRs.apart : ∀ {vs : List V} {rs : List R} {k l : Nat} {xs ys : List D} {v : V}, RRs M Z H env σ H0 vs rs → rs[k]? = some (.new xs) → rs[l]? = some (.new ys) → vs[k]? = some v → vs[l]? = some v → k = l
  | [], [], _, _, _, _, _, _, h, _, _, _ => by cases h
  | v :: vs, r :: rs, 0, 0, _, _, _, _, _, _, _, _ => rfl
  | v :: vs, r :: rs, 0, l + 1, xs, ys, w, ⟨_, h2, h3⟩, a1, a2, a3, a4 => by
    cases a1; cases a3
    exact absurd (RRs.mem_news (k := l) h3 (by simpa using a2) (by simpa using a4)) (h2 rfl)
  | v :: vs, r :: rs, k + 1, 0, xs, ys, w, ⟨_, h2, h3⟩, a1, a2, a3, a4 => by
    cases a2; cases a4
    exact absurd (RRs.mem_news (k := k) h3 (by simpa using a1) (by simpa using a3)) (h2 rfl)
  | v :: vs, r :: rs, k + 1, l + 1, xs, ys, w, ⟨_, _, h3⟩, a1, a2, a3, a4 => by
    rw [RRs.apart (k := k) (l := l) h3 (by simpa using a1) (by simpa using a2) (by simpa using a3) (by simpa using a4)]
theorem mem_pinIx : ∀ {ms : List Md} {rs : List R} {k i : Nat}, ms[k]? = some .pin → rs[k]? = some (.at i) → i ∈ pinIx ms rs
  | [], _, _, _, h, _ => by cases h
  | m :: ms, [], _, _, _, h => by cases h
  | m :: ms, r :: rs, 0, i, h1, h2 => by cases h1; cases h2; exact List.mem_cons_self
  | m :: ms, r :: rs, k + 1, i, h1, h2 => by
    have := mem_pinIx (k := k) (i := i) (ms := ms) (rs := rs) (by simpa using h1) (by simpa using h2)
    cases m with
    | pin => cases r with
      | «at» j => exact List.mem_cons_of_mem _ this
      | _ => exact this
    | _ => exact this
theorem mem_lendIx : ∀ {ms : List Md} {rs : List R} {k i : Nat} {m : Md} {e : Ev}, ms[k]? = some m → m ≠ .pin → rs[k]? = some (.at i) → (∀ d, e[i]? ≠ some (.val d)) → i ∈ lendIx ms rs e
  | [], _, _, _, _, _, h, _, _, _ => by cases h
  | m :: ms, [], _, _, _, _, _, _, h, _ => by cases h
  | m :: ms, r :: rs, 0, i, m', e, h1, hm, h2, hv => by
    cases h1; cases h2
    cases m with
    | pin => exact absurd rfl hm
    | _ =>
      unfold lendIx
      split
      · rename_i d q; exact absurd q (hv d)
      · exact List.mem_cons_self
  | m :: ms, r :: rs, k + 1, i, m', e, h1, hm, h2, hv => by
    have := mem_lendIx (k := k) (i := i) (ms := ms) (rs := rs) (e := e) (by simpa using h1) hm (by simpa using h2) hv
    cases m with
    | pin => exact this
    | _ => cases r with
      | «at» j =>
        unfold lendIx
        split
        · exact this
        · exact List.mem_cons_of_mem _ this
      | _ => exact this
theorem of_lendIx : ∀ {ms : List Md} {rs : List R} {i : Nat} {e : Ev}, i ∈ lendIx ms rs e → ∃ (k : Nat) (m : Md), ms[k]? = some m ∧ m ≠ .pin ∧ rs[k]? = some (.at i) ∧ ∀ d, e[i]? ≠ some (.val d)
  | [], _, _, _, h => by cases h
  | m :: ms, [], _, _, h => by cases m <;> cases h
  | m :: ms, r :: rs, i, e, h => by
    have tail : i ∈ lendIx ms rs e → ∃ (k : Nat) (m' : Md), (m :: ms)[k]? = some m' ∧ m' ≠ .pin ∧ (r :: rs)[k]? = some (.at i) ∧ ∀ d, e[i]? ≠ some (.val d) := fun h => by
      obtain ⟨k, m', a, b, c, d⟩ := of_lendIx h
      exact ⟨k + 1, m', by simpa using a, b, by simpa using c, d⟩
    cases m with
    | pin => exact tail h
    | lend => cases r with
      | «at» j =>
        unfold lendIx at h
        split at h
        · exact tail h
        · rename_i hn
          rcases List.mem_cons.mp h with z | z
          · subst z; exact ⟨0, .lend, rfl, by decide, rfl, fun d q => hn d q⟩
          · exact tail z
      | _ => exact tail h
    | frz => cases r with
      | «at» j =>
        unfold lendIx at h
        split at h
        · exact tail h
        · rename_i hn
          rcases List.mem_cons.mp h with z | z
          · subst z; exact ⟨0, .frz, rfl, by decide, rfl, fun d q => hn d q⟩
          · exact tail z
      | _ => exact tail h
theorem noClash_out : ∀ {ps ls : List Nat}, noClash ps ls = true → ∀ i ∈ ps, i ∉ ls
  | [], _, _, _, h => by cases h
  | p :: ps, ls, h, i, hi => by
    simp only [noClash, Bool.and_eq_true, Bool.not_eq_true'] at h
    rcases List.mem_cons.mp hi with z | z
    · subst z
      intro hm
      have := h.1.2
      rw [List.elem_eq_true_of_mem hm] at this
      cases this
    · exact noClash_out h.2 i z
theorem noClash_nodup : ∀ {ps ls : List Nat}, noClash ps ls = true → ps.Nodup
  | [], _, _ => .nil
  | p :: ps, ls, h => by
    simp only [noClash, Bool.and_eq_true, Bool.not_eq_true'] at h
    refine List.nodup_cons.mpr ⟨fun hm => ?_, noClash_nodup h.2⟩
    have := h.1.1
    rw [List.elem_eq_true_of_mem hm] at this
    cases this
theorem pin_apart : ∀ {ms : List Md} {rs : List R} {k l i : Nat}, (pinIx ms rs).Nodup → ms[k]? = some .pin → rs[k]? = some (.at i) → ms[l]? = some .pin → rs[l]? = some (.at i) → k = l
  | [], _, _, _, _, _, h, _, _, _ => by cases h
  | m :: ms, [], _, _, _, _, _, h, _, _ => by cases h
  | m :: ms, r :: rs, 0, 0, _, _, _, _, _, _ => rfl
  | m :: ms, r :: rs, 0, l + 1, i, hn, a1, a2, a3, a4 => by
    cases a1; cases a2
    exact absurd (mem_pinIx (k := l) (by simpa using a3) (by simpa using a4)) (List.nodup_cons.mp hn).1
  | m :: ms, r :: rs, k + 1, 0, i, hn, a1, a2, a3, a4 => by
    cases a3; cases a4
    exact absurd (mem_pinIx (k := k) (by simpa using a1) (by simpa using a2)) (List.nodup_cons.mp hn).1
  | m :: ms, r :: rs, k + 1, l + 1, i, hn, a1, a2, a3, a4 => by
    have hn' : (pinIx ms rs).Nodup := by
      cases m with
      | pin => cases r with
        | «at» j => exact (List.nodup_cons.mp hn).2
        | _ => exact hn
      | _ => exact hn
    rw [pin_apart (k := k) (l := l) (i := i) hn' (by simpa using a1) (by simpa using a2) (by simpa using a3) (by simpa using a4)]
/-- what stands in the slots behind a call -/
theorem back_get : ∀ {ms : List Md} {rs : List R} {cs e e2 : Ev}, (pinIx ms rs).Nodup → back ms rs cs e = some e2 → e2.length = e.length ∧ ∀ j : Nat,
    (∃ (k : Nat) (ys : List D) (s : Sl), ms[k]? = some .pin ∧ rs[k]? = some (.at j) ∧ cs[k]? = some (.pin ys) ∧ e[j]? = some s ∧ e2[j]? = some (s.re ys)) ∨ (j ∉ pinIx ms rs ∧ e2[j]? = e[j]?) := by
  intro ms
  induction ms with
  | nil =>
    intro rs cs e e2 hn h
    cases rs with
    | nil => cases cs with
      | nil => cases h; exact ⟨rfl, fun j => .inr ⟨(fun z => by cases z), rfl⟩⟩
      | cons _ _ => cases h
    | cons _ _ => cases cs <;> cases h
  | cons m ms ih =>
    intro rs cs e e2 hn h
    cases rs with
    | nil => cases m <;> cases cs <;> cases h
    | cons r rs =>
      cases cs with
      | nil => cases m <;> cases r <;> cases h
      | cons c cs =>
        have shift : (pinIx (m :: ms) (r :: rs) = pinIx ms rs) → back ms rs cs e = some e2 → e2.length = e.length ∧ ∀ j : Nat,
            (∃ (k : Nat) (ys : List D) (s : Sl), (m :: ms)[k]? = some .pin ∧ (r :: rs)[k]? = some (.at j) ∧ (c :: cs)[k]? = some (.pin ys) ∧ e[j]? = some s ∧ e2[j]? = some (s.re ys)) ∨ (j ∉ pinIx (m :: ms) (r :: rs) ∧ e2[j]? = e[j]?) := fun hp hb => by
          obtain ⟨l, g⟩ := ih (by rw [← hp]; exact hn) hb
          refine ⟨l, fun j => ?_⟩
          rcases g j with ⟨k, ys, s, a1, a2, a3, a4, a5⟩ | ⟨a1, a2⟩
          · exact .inl ⟨k + 1, ys, s, by simpa using a1, by simpa using a2, by simpa using a3, a4, a5⟩
          · exact .inr ⟨by rw [hp]; exact a1, a2⟩
        cases m with
        | lend => exact shift rfl h
        | frz => exact shift rfl h
        | pin =>
          cases r with
          | val d => exact shift rfl (by simpa [back] using h)
          | new d => exact shift rfl (by simpa [back] using h)
          | liv d => exact shift rfl (by simpa [back] using h)
          | «at» i =>
            cases c with
            | pin ys =>
              unfold back at h
              cases q : e[i]? with
              | none => rw [q] at h; cases h
              | some s =>
                rw [q] at h
                have hn2 := List.nodup_cons.mp hn
                obtain ⟨l, g⟩ := ih hn2.2 h
                refine ⟨by rw [l, List.length_set], fun j => ?_⟩
                rcases g j with ⟨k, zs, t, a1, a2, a3, a4, a5⟩ | ⟨a1, a2⟩
                · have hj : i ≠ j := fun z => by
                    subst z
                    exact hn2.1 (mem_pinIx a1 a2)
                  rw [List.getElem?_set_ne hj] at a4
                  exact .inl ⟨k + 1, zs, t, by simpa using a1, by simpa using a2, by simpa using a3, a4, a5⟩
                · by_cases hj : i = j
                  · subst hj
                    rw [List.getElem?_set_self (List.getElem?_eq_some_iff.mp q).1] at a2
                    exact .inl ⟨0, ys, s, rfl, rfl, rfl, q, a2⟩
                  · rw [List.getElem?_set_ne hj] at a2
                    exact .inr ⟨fun z => (List.mem_cons.mp z).elim (fun z => hj z.symm) a1, a2⟩
            | _ => cases h
theorem pinsLf_get : ∀ {e : Ev} {k : Nat} {ys : List D}, pinsLf e = true → e[k]? = some (.pin ys) → lfs ys = true
  | [], _, _, _, h => by cases h
  | s :: e, 0, ys, hp, h => by
    cases h
    simp only [pinsLf, Bool.and_eq_true] at hp
    exact hp.1
  | s :: e, k + 1, ys, hp, h => by
    refine pinsLf_get (k := k) ?_ (by simpa using h)
    cases s with
    | pin xs => simp only [pinsLf, Bool.and_eq_true] at hp; exact hp.2
    | _ => exact hp
end
end DV
namespace DV
open PySem PySem.Spec L2
section
variable {M : MC} {W : WX} {Z H Z' H' Z1 H1 Z2 H2 H0 : Hp} {env env' e1 e2 ce ce' : Ev} {σ : SV} {vs : List V} {rs : List R} {ms : List Md}
theorem re_lst {s : Sl} {ys : List D} (hm : s.mut?.isSome = true) : (s.re ys).cel? = some ys ∧ (s.re ys).mc? = some ys ∧ (s.re ys).isPin = s.isPin ∧ (∀ d, s.re ys ≠ .val d) ∧ ∀ xs, s.re ys ≠ .lent xs := by
  cases s with
  | own xs => exact ⟨rfl, rfl, rfl, (fun d z => by cases z), (fun d z => by cases z)⟩
  | pin xs => exact ⟨rfl, rfl, rfl, (fun d z => by cases z), (fun d z => by cases z)⟩
  | _ => cases hm
theorem re_ho {s : Sl} {ys : List D} (hm : s.mut?.isSome = true) : (s.re ys).ho = (Sl.pin ys).ho := by
  cases s with
  | own xs => rfl
  | pin xs => rfl
  | _ => cases hm
theorem argSl_pin {r : R} {e : Ev} {s : Sl} (h : argSl .pin r e = some s) : (∃ xs, r = .new xs ∧ s = .pin xs) ∨ ∃ i t xs, r = .at i ∧ e[i]? = some t ∧ t.mut? = some xs ∧ s = .pin xs := by
  cases r with
  | new xs => cases h; exact .inl ⟨xs, rfl, rfl⟩
  | val d => cases h
  | liv d => cases h
  | «at» i =>
    unfold argSl at h
    simp only at h
    split at h
    · rename_i xs q; cases h; exact .inr ⟨i, _, xs, rfl, q, rfl, rfl⟩
    · rename_i xs q; cases h; exact .inr ⟨i, _, xs, rfl, q, rfl, rfl⟩
    · cases h
theorem argSl_val {m : Md} {r : R} {e : Ev} {s : Sl} (hm : m ≠ .pin) (h : argSl m r e = some s) : (∃ d, r = .val d ∧ s = .val d) ∨ (∃ i d, r = .at i ∧ e[i]? = some (.val d) ∧ s = .val d) ∨ ∃ i t xs, r = .at i ∧ e[i]? = some t ∧ t.lst? = some xs ∧ s = .val (.lst xs) := by
  have body : (match m, r, e with
    | _, .val d, _ => some (Sl.val d)
    | _, .at i, e => match e[i]? with
      | some (.val d) => some (.val d)
      | some s => s.lst?.map fun xs => .val (.lst xs)
      | none => none
    | _, _, _ => none) = some s := by
    cases m with
    | pin => exact absurd rfl hm
    | lend => cases r <;> exact h
    | frz => cases r <;> exact h
  cases r with
  | val d => simp only at body; cases body; exact .inl ⟨d, rfl, rfl⟩
  | new xs => simp only at body; cases body
  | liv xs => simp only at body; cases body
  | «at» i =>
    simp only at body
    split at body
    · rename_i d q; cases body; exact .inr (.inl ⟨i, d, rfl, q, rfl⟩)
    · rename_i t _ q
      cases hl : t.lst? with
      | none => rw [hl] at body; cases body
      | some xs =>
        rw [hl] at body
        cases body
        exact .inr (.inr ⟨i, t, xs, rfl, q, hl, rfl⟩)
    · cases body
/-- the lists that are lent -/
def LentAt (ms : List Md) (rs : List R) (e : Ev) (σ : SV) (a : Addr) : Prop := ∃ i ∈ lendIx ms rs e, σ[i]? = some (some (V.ref a))
open Classical in
noncomputable def zc (L : Addr → Prop) (Z H : Hp) : Hp := fun a => if L a then H a else Z a
open Classical in
noncomputable def zb (L : Addr → Prop) (Z : Hp) : Hp := fun a => if L a then none else Z a
theorem zc_in {L : Addr → Prop} {a : Addr} (h : L a) : zc L Z H a = H a := if_pos h
theorem zc_out {L : Addr → Prop} {a : Addr} (h : ¬ L a) : zc L Z H a = Z a := if_neg h
theorem zb_in {L : Addr → Prop} {a : Addr} (h : L a) : zb L Z a = none := if_pos h
theorem zb_out {L : Addr → Prop} {a : Addr} (h : ¬ L a) : zb L Z a = Z a := if_neg h
theorem lent_listy (ha : mkArgs ms rs e1 = some ce) {i : Nat} (hi : i ∈ lendIx ms rs e1) : ∃ t xs, e1[i]? = some t ∧ t.lst? = some xs := by
  obtain ⟨k, m, a1, a2, a3, a4⟩ := of_lendIx hi
  obtain ⟨s, b1, b2⟩ := mkArgs_all ha a1 a3
  rcases argSl_val a2 b2 with ⟨d, q, _⟩ | ⟨j, d, q, q2, _⟩ | ⟨j, t, xs, q, q2, q3, _⟩
  · cases q
  · cases q; exact absurd q2 (a4 d)
  · cases q; exact ⟨t, xs, q2, q3⟩
theorem lent_none (rep : Rep M Z1 H1 e1 σ) (ha : mkArgs ms rs e1 = some ce) {a : Addr} (h : LentAt ms rs e1 σ a) : (∃ ws, H1 a = some (.lst ws)) ∧ Z1 a = none ∧ Listy e1 σ a := by
  obtain ⟨i, hi, z⟩ := h
  obtain ⟨t, xs, f1, f2⟩ := lent_listy ha hi
  obtain ⟨b, ws, g1, g2, g3, g4⟩ := rep.lst' i t xs f1 f2
  rw [z] at g1; cases g1
  exact ⟨⟨ws, g2⟩, g3, i, t, xs, f1, (Sl.cel_of_lst f2).1, z⟩
theorem zc_same (rep : Rep M Z1 H1 e1 σ) (ha : mkArgs ms rs e1 = some ce) : Same Z1 (zc (LentAt ms rs e1 σ) Z1 H1) := fun a o e => by
  by_cases h : LentAt ms rs e1 σ a
  · rw [(lent_none rep ha h).2.1] at e; cases e
  · rw [zc_out h]; exact e
theorem zc_tags (rep : Rep M Z1 H1 e1 σ) (ha : mkArgs ms rs e1 = some ce) {a : Addr} {n : Nat} : zc (LentAt ms rs e1 σ) Z1 H1 a = some (.own n) ↔ Z1 a = some (.own n) := by
  by_cases h : LentAt ms rs e1 σ a
  · obtain ⟨⟨ws, h1⟩, h2, _⟩ := lent_none rep ha h
    rw [zc_in h, h1, h2]
    constructor <;> (intro z; cases z)
  · rw [zc_out h]
theorem ce_now (ha : mkArgs ms rs e1 = some ce) : NoW ce := fun k S hk => by
  obtain ⟨m, r, a1, a2, a3⟩ := mkArgs_get ha hk
  cases m with
  | pin => rcases argSl_pin a3 with ⟨ys, _, q⟩ | ⟨i, t, ys, _, _, _, q⟩ <;> cases q
  | lend => rcases argSl_val (m := .lend) (by decide) a3 with ⟨d, _, q⟩ | ⟨j, d, _, _, q⟩ | ⟨j, t, xs, _, _, _, q⟩ <;> cases q
  | frz => rcases argSl_val (m := .frz) (by decide) a3 with ⟨d, _, q⟩ | ⟨j, d, _, _, q⟩ | ⟨j, t, xs, _, _, _, q⟩ <;> cases q
/-- the callee's state -/
theorem rep_callee (rep : Rep M Z1 H1 e1 σ) (rr : RRs M Z1 H1 e1 σ H vs rs) (ha : mkArgs ms rs e1 = some ce) (hc : noClash (pinIx ms rs) (lendIx ms rs e1) = true) :
    Rep M (zc (LentAt ms rs e1 σ) Z1 H1) H1 ce (vs.map some) ∧
      (∀ (k : Nat) (xs : List D), ce[k]? = some (.pin xs) → ms[k]? = some .pin ∧ ∃ a, vs[k]? = some (.ref a) ∧ ((rs[k]? = some (.new xs) ∧ H a = none ∧ ¬ Listy e1 σ a) ∨ ∃ i t, rs[k]? = some (.at i) ∧ e1[i]? = some t ∧ t.mut? = some xs ∧ σ[i]? = some (some (V.ref a)))) := by
  have sm := zc_same rep ha
  -- pins
  have pins : ∀ (k : Nat) (xs : List D), ce[k]? = some (.pin xs) → ms[k]? = some .pin ∧ ∃ a ws, vs[k]? = some (.ref a) ∧ H1 a = some (.lst ws) ∧ Z1 a = none ∧ Rps M Z1 ws xs ∧ ¬ LentAt ms rs e1 σ a ∧
      ((rs[k]? = some (.new xs) ∧ H a = none ∧ ¬ Listy e1 σ a) ∨ ∃ i t, rs[k]? = some (.at i) ∧ e1[i]? = some t ∧ t.mut? = some xs ∧ σ[i]? = some (some (V.ref a))) := fun k xs hk => by
    obtain ⟨m, r, a1, a2, a3⟩ := mkArgs_get ha hk
    have hm : m = .pin := by
      cases m with
      | pin => rfl
      | lend =>
        rcases argSl_val (m := .lend) (by decide) a3 with ⟨d, _, q⟩ | ⟨j, d, _, _, q⟩ | ⟨j, t, xs, _, _, _, q⟩ <;> cases q
      | frz =>
        rcases argSl_val (m := .frz) (by decide) a3 with ⟨d, _, q⟩ | ⟨j, d, _, _, q⟩ | ⟨j, t, xs, _, _, _, q⟩ <;> cases q
    subst hm
    obtain ⟨v, b1, b2⟩ := rr.get a2
    rcases argSl_pin a3 with ⟨ys, q, q2⟩ | ⟨i, t, ys, q, q2, q3, q4⟩
    · subst q
      cases q2
      obtain ⟨a, ws, c1, c2, c3, c4, c5, c6⟩ := b2
      subst c1
      refine ⟨a1, a, ws, b1, c2, c3, c4, fun ⟨i, hi, z⟩ => ?_, .inl ⟨a2, c5, c6⟩⟩
      obtain ⟨t, zs, f1, f2⟩ := lent_listy ha hi
      exact c6 ⟨i, t, zs, f1, (Sl.cel_of_lst f2).1, z⟩
    · subst q
      cases q4
      have b2 : σ[i]? = some (some v) := b2
      obtain ⟨a, ws, c1, c2, c3, c4⟩ := rep.lst' i t _ q2 (Sl.lst_mut q3)
      rw [b2] at c1
      cases c1
      refine ⟨a1, a, ws, b1, c2, c3, c4, fun ⟨j, hj, z⟩ => ?_, .inr ⟨i, t, a2, q2, q3, b2⟩⟩
      obtain ⟨t', zs, f1, f2⟩ := lent_listy ha hj
      have := rep.apart i j t t' _ zs a q2 f1 (Sl.cel_of_mut q3) (Sl.cel_of_lst f2).1 b2 z
      subst this
      exact noClash_out hc i (mem_pinIx a1 a2) hj
  refine ⟨⟨by rw [List.length_map, (mkArgs_len ha).1, rr.length], ⟨fun a o e t => ?_, fun a e => ?_⟩, fun k d hk => ?_, fun k s xs hk hl => ?_, fun k l sk sl xk xl a h1 h2 h3 h4 h5 h6 => ?_, fun k S hk => absurd hk (ce_now ha k S), fun k l S T hk _ => absurd hk (ce_now ha k S)⟩, fun k xs hk => ?_⟩
  · by_cases h : LentAt ms rs e1 σ a
    · rw [zc_in h] at e; exact e
    · rw [zc_out h] at e; exact rep.sub.th _ _ e t
  · by_cases h : LentAt ms rs e1 σ a
    · rw [zc_in h] at e; exact e
    · rw [zc_out h] at e; exact rep.sub.al _ e
  · obtain ⟨m, r, a1, a2, a3⟩ := mkArgs_get ha hk
    have hm : m ≠ .pin := fun z => by
      subst z
      rcases argSl_pin a3 with ⟨ys, _, q⟩ | ⟨i, t, ys, _, _, _, q⟩ <;> cases q
    obtain ⟨v, b1, b2⟩ := rr.get a2
    refine ⟨v, by rw [List.getElem?_map, b1]; rfl, ?_⟩
    rcases argSl_val hm a3 with ⟨d', q, q2⟩ | ⟨i, d', q, q2, q3⟩ | ⟨i, t, xs, q, q2, q3, q4⟩
    · subst q; cases q2; exact Rp.mono sm b2
    · subst q; cases q3
      have b2 : σ[i]? = some (some v) := b2
      obtain ⟨w, c1, c2⟩ := rep.val i d q2
      rw [b2] at c1; cases c1
      exact c2.mono sm
    · subst q; cases q4
      have b2 : σ[i]? = some (some v) := b2
      obtain ⟨a, ws, c1, c2, c3, c4⟩ := rep.lst' i t xs q2 q3
      rw [b2] at c1; cases c1
      refine .lst ?_ (c4.mono sm)
      rw [zc_in ⟨i, mem_lendIx a1 hm a2 (fun d z => by rw [q2] at z; cases z; cases q3), b2⟩]
      exact c2
  · have hs : s = .pin xs := by
      obtain ⟨m, r, a1, a2, a3⟩ := mkArgs_get ha hk
      cases m with
      | pin => rcases argSl_pin a3 with ⟨ys, _, q⟩ | ⟨i, t, ys, _, _, _, q⟩ <;> (subst q; cases hl; rfl)
      | lend => rcases argSl_val (m := .lend) (by decide) a3 with ⟨d, _, q⟩ | ⟨j, d, _, _, q⟩ | ⟨j, t, xs, _, _, _, q⟩ <;> (subst q; cases hl)
      | frz => rcases argSl_val (m := .frz) (by decide) a3 with ⟨d, _, q⟩ | ⟨j, d, _, _, q⟩ | ⟨j, t, xs, _, _, _, q⟩ <;> (subst q; cases hl)
    subst hs
    obtain ⟨_, a, ws, c1, c2, c3, c4, c5, _⟩ := pins k xs hk
    exact ⟨a, ws, by rw [List.getElem?_map, c1]; rfl, c2, by rw [zc_out c5]; exact c3, c4.mono sm⟩
  · have isPin : ∀ (k : Nat) (s : Sl) (xs : List D), ce[k]? = some s → s.cel? = some xs → s = .pin xs := fun k s xs hk hl => by
      obtain ⟨m, r, a1, a2, a3⟩ := mkArgs_get ha hk
      cases m with
      | pin => rcases argSl_pin a3 with ⟨ys, _, q⟩ | ⟨i, t, ys, _, _, _, q⟩ <;> (subst q; cases hl; rfl)
      | lend => rcases argSl_val (m := .lend) (by decide) a3 with ⟨d, _, q⟩ | ⟨j, d, _, _, q⟩ | ⟨j, t, xs, _, _, _, q⟩ <;> (subst q; cases hl)
      | frz => rcases argSl_val (m := .frz) (by decide) a3 with ⟨d, _, q⟩ | ⟨j, d, _, _, q⟩ | ⟨j, t, xs, _, _, _, q⟩ <;> (subst q; cases hl)
    have := isPin k sk xk h1 h3
    subst this
    have := isPin l sl xl h2 h4
    subst this
    obtain ⟨m1, a1, ws1, c1, c2, c3, c4, c5, c6⟩ := pins k xk h1
    obtain ⟨m2, a2, ws2, d1, d2, d3, d4, d5, d6⟩ := pins l xl h2
    rw [List.getElem?_map, c1] at h5
    rw [List.getElem?_map, d1] at h6
    cases h5
    cases h6
    rcases c6 with ⟨p1, p2, p3⟩ | ⟨i, t, p1, p2, p3, p4⟩
    · rcases d6 with ⟨q1, q2, q3⟩ | ⟨j, u, q1, q2, q3, q4⟩
      · exact rr.apart p1 q1 c1 d1
      · exact absurd ⟨j, u, xl, q2, Sl.cel_of_mut q3, q4⟩ p3
    · rcases d6 with ⟨q1, q2, q3⟩ | ⟨j, u, q1, q2, q3, q4⟩
      · exact absurd ⟨i, t, xk, p2, Sl.cel_of_mut p3, p4⟩ q3
      · have := rep.apart i j t u xk xl a p2 q2 (Sl.cel_of_mut p3) (Sl.cel_of_mut q3) p4 q4
        subst this
        exact pin_apart (noClash_nodup hc) m1 p1 m2 q1
  · obtain ⟨m1, a, ws, c1, c2, c3, c4, c5, c6⟩ := pins k xs hk
    exact ⟨m1, a, c1, c6⟩
/-- behind the call -/
theorem aft_call {Zb Hb : Hp} {envb : Ev} (xb : Aft M Zb Hb envb σ Z1 H1 e1 σ) (rr : RRs M Z1 H1 e1 σ Hb vs rs) (ha : mkArgs ms rs e1 = some ce) (hc : noClash (pinIx ms rs) (lendIx ms rs e1) = true)
    (x : Aft M (zc (LentAt ms rs e1 σ) Z1 H1) H1 ce (vs.map some) Z' H' ce' (vs.map some)) (hb : back ms rs ce' e1 = some e2) (hl : lendIx ms rs e1 = [] ∨ pinsLf ce' = true) :
    Aft M Zb Hb envb σ (zb (LentAt ms rs e1 σ) Z') H' e2 σ ∧ (∀ (v : V) (d : D), (lendIx ms rs e1 = [] ∨ d.lf = true) → Rp M Z' v d → Rp M (zb (LentAt ms rs e1 σ) Z') v d) ∧
      (∀ (v : List V) (d : List D), (lendIx ms rs e1 = [] ∨ lfs d = true) → Rps M Z' v d → Rps M (zb (LentAt ms rs e1 σ) Z') v d) ∧ ∀ a, Listy e2 σ a → H1 a ≠ none := by
  have rep := xb.rep
  obtain ⟨rc, pins⟩ := rep_callee rep rr ha hc
  have lent1 : ∀ a, LentAt ms rs e1 σ a → (∃ ws, H1 a = some (.lst ws)) ∧ Z1 a = none ∧ Listy e1 σ a := fun a z => lent_none rep ha z
  have less : Less Z' (zb (LentAt ms rs e1 σ) Z') := fun a o e ho => by
    have : ¬ LentAt ms rs e1 σ a := fun z => by
      obtain ⟨⟨ws, h⟩, _⟩ := lent1 a z
      have := x.sub a _ ((zc_in z).trans h)
      rw [e] at this
      cases this
      exact ho ws rfl
    rw [zb_out this]; exact e
  have none : lendIx ms rs e1 = [] → zb (LentAt ms rs e1 σ) Z' = Z' := fun z => by
    funext a
    refine zb_out fun ⟨i, hi, _⟩ => ?_
    rw [z] at hi
    cases hi
  have tr : ∀ (v : V) (d : D), (lendIx ms rs e1 = [] ∨ d.lf = true) → Rp M Z' v d → Rp M (zb (LentAt ms rs e1 σ) Z') v d := fun v d h r => by
    rcases h with h | h
    · rw [none h]; exact r
    · exact r.less less h
  have trs : ∀ (v : List V) (d : List D), (lendIx ms rs e1 = [] ∨ lfs d = true) → Rps M Z' v d → Rps M (zb (LentAt ms rs e1 σ) Z') v d := fun v d h r => by
    rcases h with h | h
    · rw [none h]; exact r
    · exact r.less less h
  have same1 : Same Z1 (zb (LentAt ms rs e1 σ) Z') := fun a o e => by
    have : ¬ LentAt ms rs e1 σ a := fun z => by
      rw [(lent1 a z).2.1] at e; cases e
    rw [zb_out this]
    exact x.sub a o (by rw [zc_out this]; exact e)
  obtain ⟨len2, bk⟩ := back_get (noClash_nodup hc) hb
  -- what a changed slot was
  have changed : ∀ (k j : Nat) (ys : List D) (s : Sl), ms[k]? = some .pin → rs[k]? = some (.at j) → ce'[k]? = some (.pin ys) → e1[j]? = some s → s.mut?.isSome = true ∧ ∃ a, σ[j]? = some (some (V.ref a)) ∧ (vs.map some)[k]? = some (some (V.ref a)) := fun k j ys s h1 h2 h3 h4 => by
    obtain ⟨t, b1, b2⟩ := mkArgs_all ha h1 h2
    rcases argSl_pin b2 with ⟨zs, q, _⟩ | ⟨i, t', zs, q, q2, q3, _⟩
    · cases q
    · cases q
      rw [h4] at q2; cases q2
      obtain ⟨a, ws, g1, g2, g3, g4⟩ := rep.lst' _ _ zs h4 (Sl.lst_mut q3)
      obtain ⟨v, c1, c2⟩ := rr.get h2
      have c2 : σ[j]? = some (some v) := c2
      rw [g1] at c2
      cases c2
      exact ⟨by rw [q3]; rfl, a, g1, by rw [List.getElem?_map, c1]; rfl⟩
  -- listy slots were listy
  have was : ∀ (i : Nat) (s : Sl) (xs : List D), e2[i]? = some s → s.cel? = some xs → ∃ t ys, e1[i]? = some t ∧ t.cel? = some ys := fun i s xs h1 h2 => by
    rcases bk i with ⟨k, ys, t, a1, a2, a3, a4, a5⟩ | ⟨a1, a2⟩
    · obtain ⟨m, _⟩ := changed k i ys t a1 a2 a3 a4
      obtain ⟨zs, hz⟩ := Option.isSome_iff_exists.mp m
      exact ⟨t, zs, a4, Sl.cel_of_mut hz⟩
    · rw [a2] at h1; exact ⟨s, xs, h1, h2⟩
  have listy1 : ∀ a, Listy e2 σ a → Listy e1 σ a := fun a ⟨i, s, xs, h1, h2, h3⟩ => by
    obtain ⟨t, ys, g1, g2⟩ := was i s xs h1 h2
    exact ⟨i, t, ys, g1, g2, h3⟩
  -- what the callee owns
  have ownc : ∀ a, Owned ce (vs.map some) a → (Hb a = Option.none ∧ ¬ Listy e1 σ a) ∨ ∃ (j k : Nat) (t : Sl) (xs : List D), ms[k]? = some .pin ∧ rs[k]? = some (.at j) ∧ e1[j]? = some t ∧ t.mut? = some xs ∧ σ[j]? = some (some (V.ref a)) := fun a ⟨k, s, xs, h1, h2, h3⟩ => by
    have hs : s = .pin xs := by
      obtain ⟨m, r, a1, a2, a3⟩ := mkArgs_get ha h1
      cases m with
      | pin => rcases argSl_pin a3 with ⟨ys, _, q⟩ | ⟨i, t, ys, _, _, _, q⟩ <;> (subst q; cases h2; rfl)
      | lend => rcases argSl_val (m := .lend) (by decide) a3 with ⟨d, _, q⟩ | ⟨j, d, _, _, q⟩ | ⟨j, t, xs, _, _, _, q⟩ <;> (subst q; cases h2)
      | frz => rcases argSl_val (m := .frz) (by decide) a3 with ⟨d, _, q⟩ | ⟨j, d, _, _, q⟩ | ⟨j, t, xs, _, _, _, q⟩ <;> (subst q; cases h2)
    subst hs
    obtain ⟨m1, b, c1, c2⟩ := pins k xs h1
    rw [List.getElem?_map, c1] at h3
    cases h3
    rcases c2 with ⟨p1, p2, p3⟩ | ⟨i, t, p1, p2, p3, p4⟩
    · exact .inl ⟨p2, p3⟩
    · exact .inr ⟨i, k, t, xs, m1, p1, p2, p3, p4⟩
  -- the world
  have wof : ∀ (i : Nat) (S : List D), e2[i]? = some (.wld S) ↔ e1[i]? = some (.wld S) := fun i S => by
    rcases bk i with ⟨k, ys, t, a1, a2, a3, a4, a5⟩ | ⟨a1, a2⟩
    · obtain ⟨m, _⟩ := changed k i ys t a1 a2 a3 a4
      rw [a4, a5]
      cases t with
      | own _ => constructor <;> (intro z; cases z)
      | pin _ => constructor <;> (intro z; cases z)
      | _ => cases m
    · rw [a2]
  have tg : ∀ a n, zb (LentAt ms rs e1 σ) Z' a = some (.own n) → Z1 a = some (.own n) := fun a n e => by
    by_cases z : LentAt ms rs e1 σ a
    · rw [zb_in z] at e; cases e
    · rw [zb_out z] at e; exact (zc_tags rep ha).mp (x.wk.tags (ce_now ha) a n e)
  have kl : ∀ a n, Z1 a = some (.own n) → H' a = H1 a := fun a n e => x.wk.kept (ce_now ha) a n ((zc_tags rep ha).mpr e)
  have wkk : WK Zb Hb envb (zb (LentAt ms rs e1 σ) Z') H' e2 := xb.wk.trans ⟨fun i S h => ⟨S, (wof i S).mpr h⟩, fun i S h => ⟨S, (wof i S).mp h⟩, fun _ => tg, fun _ => kl⟩ xb.sub
  refine ⟨⟨⟨by rw [len2]; exact rep.len, ⟨fun a o e t => ?_, fun a e => ?_⟩, fun i d h => ?_, fun i s xs h1 h2 => ?_, fun i j si sj xi xj a h1 h2 h3 h4 h5 h6 => ?_, fun i S h => (rep.wld i S ((wof i S).mp h)).mono same1 tg kl, fun i j S T h1 h2 => rep.wone i j S T ((wof i S).mp h1) ((wof j T).mp h2)⟩, xb.sub.trans same1, fun a h1 h2 h3 => ?_, fun a h => x.alive a (xb.alive a h), fun a h => ?_, fun i s h1 h2 => ?_, fun i s h1 h2 => ?_, fun i xs h1 => ?_, fun i xs h1 => ?_, wkk⟩, tr, trs, fun a h => (listy1 a h).ne rep⟩
  · by_cases z : LentAt ms rs e1 σ a
    · rw [zb_in z] at e; cases e
    · rw [zb_out z] at e; exact x.rep.sub.th _ _ e t
  · by_cases z : LentAt ms rs e1 σ a
    · exact absurd (zb_in z) e
    · rw [zb_out z] at e; exact x.rep.sub.al _ e
  · rcases bk i with ⟨k, ys, t, a1, a2, a3, a4, a5⟩ | ⟨a1, a2⟩
    · obtain ⟨m, _⟩ := changed k i ys t a1 a2 a3 a4
      rw [a5] at h
      have := (re_lst (ys := ys) m).2.2.2.1 d
      exact absurd (Option.some.inj h) this
    · rw [a2] at h
      obtain ⟨w, b1, b2⟩ := rep.val i d h
      exact ⟨w, b1, b2.mono same1⟩
  · rcases bk i with ⟨k, ys, t, a1, a2, a3, a4, a5⟩ | ⟨a1, a2⟩
    · obtain ⟨m, a, b1, b2⟩ := changed k i ys t a1 a2 a3 a4
      rw [a5] at h1
      cases h1
      rw [(re_lst (ys := ys) m).1] at h2
      cases h2
      obtain ⟨a', ws, g1, g2, g3, g4⟩ := x.rep.lst k _ _ a3 rfl
      rw [b2] at g1
      cases g1
      refine ⟨a, ws, b1, by rw [re_ho m]; exact g2, ?_, trs _ _ (hl.imp id fun z => pinsLf_get z a3) g4⟩
      by_cases z : LentAt ms rs e1 σ a
      · exact zb_in z
      · rw [zb_out z]; exact g3
    · rw [a2] at h1
      obtain ⟨a, ws, g1, g2, g3, g4⟩ := rep.lst i s xs h1 h2
      have no : ¬ Owned ce (vs.map some) a := fun z => by
        rcases ownc a z with ⟨_, z⟩ | ⟨j, k, t, ys, b1, b2, b3, b4, b5⟩
        · exact z ⟨i, s, xs, h1, h2, g1⟩
        · have := rep.apart i j s t xs ys a h1 b3 h2 (Sl.cel_of_mut b4) g1 b5
          subst this
          exact a1 (mem_pinIx b1 b2)
      obtain ⟨k1, k2⟩ := x.kept a (by rw [g2]; simp) no fun n z => by rw [(zc_tags rep ha).mp z] at g3; cases g3
      refine ⟨a, ws, g1, k1.trans g2, ?_, g4.mono same1⟩
      by_cases z : LentAt ms rs e1 σ a
      · exact zb_in z
      · rw [zb_out z, k2, zc_out z]; exact g3
  · obtain ⟨t, ys, g1, g2⟩ := was i si xi h1 h3
    obtain ⟨u, zs, g3, g4⟩ := was j sj xj h2 h4
    exact rep.apart i j t u ys zs a g1 g3 g2 g4 h5 h6
  · obtain ⟨k1, k2⟩ := xb.kept a h1 h2 h3
    have n1 : H1 a ≠ Option.none := xb.alive a h1
    have no1 : ¬ Owned e1 σ a := fun z => (xb.owned a z).elim h2 h1
    have no : ¬ Owned ce (vs.map some) a := fun z => by
      rcases ownc a z with ⟨z, _⟩ | ⟨j, k, t, ys, b1, b2, b3, b4, b5⟩
      · exact h1 z
      · exact no1 ⟨j, t, ys, b3, (Sl.mc_of_mut b4).1, b5⟩
    obtain ⟨m1, m2⟩ := x.kept a n1 no fun n z => h3 n (k2.symm.trans ((zc_tags rep ha).mp z))
    refine ⟨m1.trans k1, ?_⟩
    by_cases z : LentAt ms rs e1 σ a
    · rw [zb_in z, ← k2, (lent1 a z).2.1]
    · rw [zb_out z, m2, zc_out z, k2]
  · obtain ⟨i, s, xs, f1, f2, f3⟩ := h
    refine xb.owned a ?_
    rcases bk i with ⟨k, ys, t, a1, a2, a3, a4, a5⟩ | ⟨a1, a2⟩
    · obtain ⟨m, _⟩ := changed k i ys t a1 a2 a3 a4
      obtain ⟨zs, hz⟩ := Option.isSome_iff_exists.mp m
      exact ⟨i, t, zs, a4, (Sl.mc_of_mut hz).1, f3⟩
    · rw [a2] at f1; exact ⟨i, s, xs, f1, f2, f3⟩
  · obtain ⟨e, s', g1, g2⟩ := xb.pins i s h1 h2
    refine ⟨e, ?_⟩
    rcases bk i with ⟨k, ys, t, a1, a2, a3, a4, a5⟩ | ⟨a1, a2⟩
    · obtain ⟨m, _⟩ := changed k i ys t a1 a2 a3 a4
      rw [g1] at a4; cases a4
      exact ⟨_, a5, by rw [(re_lst (ys := ys) m).2.2.1]; exact g2⟩
    · exact ⟨s', by rw [a2]; exact g1, g2⟩
  · rcases bk i with ⟨k, ys, t, a1, a2, a3, a4, a5⟩ | ⟨a1, a2⟩
    · obtain ⟨m, _⟩ := changed k i ys t a1 a2 a3 a4
      rw [a5] at h1; cases h1
      exact xb.unpin i t a4 (by rw [← (re_lst (ys := ys) m).2.2.1]; exact h2)
    · rw [a2] at h1; exact xb.unpin i s h1 h2
  · obtain ⟨e, g1⟩ := xb.lents i xs h1
    refine ⟨e, ?_⟩
    rcases bk i with ⟨k, ys, t, a1, a2, a3, a4, a5⟩ | ⟨a1, a2⟩
    · obtain ⟨m, _⟩ := changed k i ys t a1 a2 a3 a4
      rw [g1] at a4; cases a4
      cases m
    · rw [a2]; exact g1
  · rcases bk i with ⟨k, ys, t, a1, a2, a3, a4, a5⟩ | ⟨a1, a2⟩
    · obtain ⟨m, _⟩ := changed k i ys t a1 a2 a3 a4
      rw [a5] at h1
      exact absurd (Option.some.inj h1) ((re_lst (ys := ys) m).2.2.2.2 xs)
    · rw [a2] at h1; exact xb.unlent i xs h1
/-- the promise of F, as it is wanted behind the call -/
theorem call_post {F : FSem} {n : Nat} {Q : VK} {G : R → Ev → Hp → Hp → Prop} (x1 : Aft M Z H env σ Z1 H1 e1 σ) (rr : RRs M Z1 H1 e1 σ H vs rs) (hn : F.modes.length = n)
    (hG : ∀ r e Z' H', G r e Z' H' → ∀ v, RR M Z' H' e σ H v r → Q v H') (h : Post M W Z H env σ (callR F rs e1) G) : spF M n F.run vs H1 Q (fun c d H' => W c d σ H') := by
  unfold callR at h
  cases q1 : pre F.modes rs e1 with
  | none => rw [q1] at h; exact h.elim
  | some p =>
    obtain ⟨rs1, e1'⟩ := p
    rw [q1] at h
    simp only at h
    obtain ⟨Z1', rr1, y1, _⟩ := pre_ok x1.alive rr x1.rep q1
    have x1' := x1.escaped y1
    cases q2 : mkArgs F.modes rs1 e1' with
    | none => rw [q2] at h; exact h.elim
    | some ce =>
      rw [q2] at h
      simp only at h
      by_cases hc : noClash (pinIx F.modes rs1) (lendIx F.modes rs1 e1') = true
      · rw [if_pos hc] at h
        obtain ⟨rc, _⟩ := rep_callee x1'.rep rr1 q2 hc
        refine ⟨by rw [rr1.length, ← (mkArgs_len q2).2]; exact hn, _, ce, rc, ?_⟩
        cases q3 : F.run ce with
        | bad => rw [q3] at h; exact h.elim
        | ok r ce' =>
          rw [q3] at h
          simp only at h
          intro Z2 H2 x2 v rv
          cases r with
          | «at» i => exact h.elim
          | liv i => exact h.elim
          | val d =>
            rw [if_neg (by simp [R.isAt])] at h
            by_cases hl : ((lendIx F.modes rs1 e1').isEmpty || (R.lf (.val d) && pinsLf ce')) = true
            · rw [if_pos hl] at h
              cases q4 : back F.modes rs1 ce' e1' with
              | none => rw [q4] at h; exact h.elim
              | some e2 =>
                rw [q4] at h
                have hl' : lendIx F.modes rs1 e1' = [] ∨ (d.lf = true ∧ pinsLf ce' = true) := by
                  rcases Bool.or_eq_true_iff.mp hl with z | z
                  · exact .inl (List.isEmpty_iff.mp z)
                  · exact .inr ((Bool.and_eq_true_iff.mp z))
                obtain ⟨a1, a2, a3, a4⟩ := aft_call x1' rr1 q2 hc x2 q4 (hl'.imp id fun z => z.2)
                exact hG _ _ _ _ (h _ _ a1) v (a2 v d (hl'.imp id fun z => z.1) rv)
            · rw [if_neg hl] at h; exact h.elim
          | new xs =>
            rw [if_neg (by simp [R.isAt])] at h
            by_cases hl : ((lendIx F.modes rs1 e1').isEmpty || (R.lf (.new xs) && pinsLf ce')) = true
            · rw [if_pos hl] at h
              cases q4 : back F.modes rs1 ce' e1' with
              | none => rw [q4] at h; exact h.elim
              | some e2 =>
                rw [q4] at h
                have hl' : lendIx F.modes rs1 e1' = [] ∨ (lfs xs = true ∧ pinsLf ce' = true) := by
                  rcases Bool.or_eq_true_iff.mp hl with z | z
                  · exact .inl (List.isEmpty_iff.mp z)
                  · exact .inr ((Bool.and_eq_true_iff.mp z))
                obtain ⟨a1, a2, a3, a4⟩ := aft_call x1' rr1 q2 hc x2 q4 (hl'.imp id fun z => z.2)
                obtain ⟨p, ws, b1, b2, b3, b4, b5, b6⟩ := rv
                refine hG _ _ _ _ (h _ _ a1) v ⟨p, ws, b1, b2, ?_, a3 ws xs (hl'.imp id fun z => z.1) b4, ?_, fun z => a4 p z b5⟩
                · by_cases z : LentAt F.modes rs1 e1' σ p
                  · exact zb_in z
                  · rw [zb_out z]; exact b3
                · cases z : H p with
                  | none => rfl
                  | some o => exact absurd b5 (x1.alive p (by rw [z]; simp))
            · rw [if_neg hl] at h; exact h.elim
        | exn xx ce' =>
          rw [q3] at h
          simp only at h
          intro cv d Z2 H2 x2 xr
          by_cases hl : ((lendIx F.modes rs1 e1').isEmpty || (lfs xx.ds && pinsLf ce')) = true
          · rw [if_pos hl] at h
            cases q4 : back F.modes rs1 ce' e1' with
            | none => rw [q4] at h; exact h.elim
            | some e2 =>
              rw [q4] at h
              have hl' : lendIx F.modes rs1 e1' = [] ∨ (lfs xx.ds = true ∧ pinsLf ce' = true) := by
                rcases Bool.or_eq_true_iff.mp hl with z | z
                · exact .inl (List.isEmpty_iff.mp z)
                · exact .inr ((Bool.and_eq_true_iff.mp z))
              obtain ⟨a1, a2, a3, a4⟩ := aft_call x1' rr1 q2 hc x2 q4 (hl'.imp id fun z => z.2)
              refine h cv d _ _ a1 ?_
              obtain ⟨C, b1, b2, b3⟩ := xr
              refine ⟨C, b1, b2, ?_⟩
              rcases b3 with b3 | ⟨dd, ws, c1, c2, c3, c4⟩
              · exact .inl b3
              · exact .inr ⟨dd, ws, c1, by rw [zb_out fun z => (by obtain ⟨⟨us, hu⟩, _⟩ := lent_none x1'.rep q2 z; have := x2.sub dd _ ((zc_in z).trans hu); rw [c2] at this; cases this)]; exact c2, c3, a3 ws _ (hl'.imp id fun z => z.1) c4⟩
          · rw [if_neg hl] at h; exact h.elim
      · rw [if_neg hc] at h; exact h.elim
end
section
variable {X : Cx} {W : WX} {k n : Nat} {f : Addr} {fd : FuncData} {ps : List Str} {F : FSem} {x : Str} {p pos : Pos} {e : Expr} {es : List Expr} {t : SL}
/-- a call by places -/
theorem de_call (G : FnOk X.prog X.w X.K X.mg X.base (L2N.CX X.prog X.w) k f fd ps (spF (mc X) n F.run)) (hr : Room k X.A) (hm : X.mg x = some (.ref f)) (hk : PySem.W.keepIn X.K (.ref f) = true) (hb : Binds X.K fd ps []) (tk : L2N.Takes X W) (ha : DA W X (e :: es) t) (hn : F.modes.length = n := by rfl)
    (hg : Gl X x := by rfl) (hdb : (x == ("__debug__" : Str)) = false := by decide) (he : starEach (e :: es) X.env = (false, eval e X.env) :: starEach es X.env := by rfl) (hpl : (backTo pos (starEach es X.env)).any (·.1) = false := by rfl) :
    DE W X (.Call (.Name x p) (e :: es) [] pos) (vCall F t) := by
  refine weakE (pe_callSD (E := fun σ c d H => W c d σ H) G hr hg hm hk hb .nil (fun σ => L2N.passAt tk σ) ha hdb he hpl) fun σ H Q ⟨Z, env, rep, h⟩ => ⟨Z, env, rep, h.bindB.mono fun rs e1 Z1 H1 x1 p vs rr => ?_⟩
  show spF _ _ _ (vs ++ []) _ _ _
  rw [List.append_nil]
  exact call_post x1 rr hn (fun r e Z' H' q => q) p
end
end DV
namespace DV
open PySem PySem.Spec L2
section
variable {X : Cx} {W : WX} {M : MC}
/-! ### + - * // % ** -/
/-- t + u, the new tuple known -/
def rCatF (K : PySem.W.Frag) : R2 := fun x y H Q => ∃ a b xs ys, x = .ref a ∧ y = .ref b ∧ SqT K H a xs ∧ SqT K H b ys ∧ xs.length + ys.length ≤ sizeLine ∧
  (xs = [] → Q (.ref b) H) ∧ (xs ≠ [] → ys = [] → Q (.ref a) H) ∧ (xs ≠ [] → ys ≠ [] → ∀ (p : Addr) (o : Obj), H p = none → o.dict = none → Q (.ref p) (upd H p (.frz o (.tup (xs ++ ys)))))
theorem op_catF : OpR X (binaryOp .Add) (rCatF X.K) := by
  intro pins s σ H x y v u Q I rx ry h
  obtain ⟨a, b, xs, ys, rfl, rfl, ha, hb, hz, q0, q1, q2⟩ := h
  cases rx
  cases ry
  obtain ⟨its, r1, p1, _⟩ := I.tuple ha
  obtain ⟨its2, r2, p2, _⟩ := I.tuple hb
  by_cases hx : xs = []
  · subst hx
    cases r1
    exact cat_tup0 p1 p2 ⟨.ref b, H, I, rfl, q0 rfl⟩
  · refine HT.cat_tup p1 p2 (fun z => hx (r1.nil_iff.mp z)) (fun z => ⟨.ref a, H, I, rfl, q1 hx (r2.nil_iff.mp z)⟩) (fun z => ?_) (by rw [← r1.length, ← r2.length]; exact hz)
    refine ⟨.ref s.heap.objs.size, _, I.laid (t' := s.toks) (o := .frz { cls := .type "tuple", data := .seq (its ++ its2).toArray } (.tup (xs ++ ys))) (fun b ob q => Heap.get?_push_of_some _ q) (Nat.le_refl _) ?_, rfl, q2 hx (fun w => z (r2.nil_iff.mpr w)) _ _ (I.hok.fresh (Nat.le_refl _)) ?_⟩
    · exact ⟨Heap.get?_push_size _ rfl, by rw [List.length_append]; exact hz, _, r1.append r2, PyProof.Rows.IsTup.new _ _⟩
    · rfl
def rSlF (K : PySem.W.Frag) : V → Option Int → Option Int → Hp → VK → Prop := fun x lo hi H Q => ∃ a xs, x = .ref a ∧ SqT K H a xs ∧
  (HT.sIx xs.length 0 lo = 0 ∧ HT.sIx xs.length xs.length hi = xs.length → Q (.ref a) H) ∧ (¬ (HT.sIx xs.length 0 lo = 0 ∧ HT.sIx xs.length xs.length hi = xs.length) → ∀ (p : Addr) (o : Obj), H p = none → o.dict = none → Q (.ref p) (upd H p (.frz o (.tup (cutV xs lo hi)))))
theorem sl_tupF : SlR X (rSlF X.K) := by
  intro pins s σ H x v vl vu lo hi sl Q I rx hs pl pu h
  obtain ⟨a, xs, rfl, hx, q1, q2⟩ := h
  cases rx
  obtain ⟨its, r, ht, hz⟩ := I.tuple hx
  have hlen : its.toArray.size = xs.length := by rw [List.size_toArray]; exact r.length.symm
  by_cases hw : HT.sIx xs.length 0 lo = 0 ∧ HT.sIx xs.length xs.length hi = xs.length
  · refine ⟨"tuple", _, PyProof.Rows.slot_tuple_getitem.lookup, ht.typeIs, ?_⟩
    exact getItem_tuple_whole ht hs pl pu (by rw [hlen]; exact hw) ⟨.ref a, H, I, rfl, q1 hw⟩
  · refine ⟨"tuple", _, PyProof.Rows.slot_tuple_getitem.lookup, ht.typeIs, ?_⟩
    refine HT.getItem_tuple_cut ht hs pl pu (by rw [hlen]; exact hw) ?_ (by rw [hlen]; exact hz)
    rw [hlen]
    refine ⟨.ref s.heap.objs.size, _, I.laid (t' := s.toks) (o := .frz { cls := .type "tuple", data := .seq ((its.drop (HT.sIx xs.length 0 lo)).take (HT.sIx xs.length xs.length hi - HT.sIx xs.length 0 lo)).toArray } (.tup (cutV xs lo hi))) (fun b ob q => Heap.get?_push_of_some _ q) (Nat.le_refl _) ?_, rfl, q2 hw _ _ (I.hok.fresh (Nat.le_refl _)) ?_⟩
    · exact ⟨Heap.get?_push_size _ rfl, Nat.le_trans (cutV_length xs lo hi) hz, _, (r.drop (HT.sIx xs.length 0 lo)).take (HT.sIx xs.length xs.length hi - HT.sIx xs.length 0 lo), PyProof.Rows.IsTup.new _ _⟩
    · rfl
def rAddD (K : PySem.W.Frag) : R2 := fun x y H Q => rI0 (fun i j => .int (i + j)) x y H Q ∨ (∃ i j, x = .str i ∧ y = .str j ∧ i.length + j.length ≤ sizeLine ∧ Q (.str (i ++ j)) H) ∨ rCat x y H Q ∨ rCatF K x y H Q
theorem op_addD : OpR X (binaryOp .Add) (rAddD X.K) := op_add.or (op_add_str.or (op_cat.or op_catF))
def gAdd (d e : D) : Option R := match d, e with
  | .int i, .int j => some (.val (.int (i + j)))
  | .str a, .str b => if a.length + b.length ≤ LIM then some (.val (.str (a ++ b))) else none
  | .lst a, .lst b => if a.length + b.length ≤ LIM then some (.new (a ++ b)) else none
  | .tup a, .tup b => if a.length + b.length ≤ LIM then some (.val (.tup (a ++ b))) else none
  | _, _ => none
theorem okAdd : OpD M (rAddD M.K) gAdd := by
  intro Z H x y dx dy res Q sb nx ny hg k
  unfold gAdd at hg
  split at hg
  · cases hg
    have e1 := nx.int; have e2 := ny.int
    subst e1 e2
    exact .inl ⟨_, _, rfl, rfl, k _ Z H (.refl sb) (.int _)⟩
  · split at hg
    · rename_i hl
      cases hg
      have e1 := nx.str; have e2 := ny.str
      subst e1 e2
      exact .inr (.inl ⟨_, _, rfl, rfl, lim_line hl, k _ Z H (.refl sb) (.str _)⟩)
    · cases hg
  · split at hg
    · rename_i hl
      cases hg
      obtain ⟨a, vs, e1, e2, e3⟩ := nx.lst sb
      obtain ⟨b, ws, f1, f2, f3⟩ := ny.lst sb
      subst e1 f1
      refine .inr (.inr (.inl ⟨a, b, vs, ws, rfl, rfl, e2, f2, by rw [e3.length, f3.length]; exact lim_line hl, fun p hp => ?_⟩))
      exact k _ Z _ (.own sb hp) ⟨p, _, rfl, upd_same, none_of_sub sb hp, e3.append f3, hp⟩
    · cases hg
  · split at hg
    · rename_i hl
      cases hg
      obtain ⟨a, vs, e1, e2, e2', e3⟩ := nx.tup sb
      obtain ⟨b, ws, f1, f2, f2', f3⟩ := ny.tup sb
      subst e1 f1
      refine .inr (.inr (.inr ⟨a, b, vs, ws, rfl, rfl, e2, f2, by rw [e3.length, f3.length]; exact lim_line hl, fun z => ?_, fun z1 z2 => ?_, fun z1 z2 p o hp hd => ?_⟩))
      · subst z
        cases e3
        exact k _ Z H (.refl sb) (.tup f2' f3)
      · subst z2
        cases f3
        rw [List.append_nil] at k
        exact k _ Z H (.refl sb) (.tup e2' e3)
      · have g := Grow.frz (o := .frz o (.tup (vs ++ ws))) sb hp
        exact k _ _ _ g (.tup (.inl ⟨o, upd_same, hd⟩) ((e3.append f3).mono g.sub))
    · cases hg
  · cases hg
def gInt (g : Int → Int → Option D) (d e : D) : Option R := match d, e with
  | .int i, .int j => (g i j).map R.val
  | _, _ => none
theorem okInt {C : Int → Int → Prop} {f : Int → Int → V} {g : Int → Int → Option D} (h : ∀ i j d, g i j = some d → C i j ∧ ∀ Z, Rp M Z (f i j) d) : OpD M (rI C f) (gInt g) := by
  intro Z H x y dx dy res Q sb nx ny hg k
  unfold gInt at hg
  split at hg
  · rename_i i j
    have e1 := nx.int; have e2 := ny.int
    subst e1 e2
    cases q : g i j with
    | none => rw [q] at hg; cases hg
    | some d =>
      rw [q] at hg
      cases hg
      obtain ⟨h1, h2⟩ := h i j d q
      exact ⟨i, j, rfl, rfl, h1, k _ Z H (.refl sb) (h2 Z)⟩
  · cases hg
theorem okInt0 {f : Int → Int → V} {g : Int → Int → Option D} (h : ∀ i j d, g i j = some d → ∀ Z, Rp M Z (f i j) d) : OpD M (rI0 f) (gInt g) := by
  intro Z H x y dx dy res Q sb nx ny hg k
  obtain ⟨i, j, a, b, _, c⟩ := okInt (M := M) (C := fun _ _ => True) (f := f) (fun i j d q => ⟨trivial, h i j d q⟩) Z H x y dx dy res Q sb nx ny hg k
  exact ⟨i, j, a, b, c⟩
def gSub : D → D → Option R := gInt fun i j => some (.int (i - j))
theorem okSub : OpD M (rI0 fun i j => .int (i - j)) gSub := okInt0 fun _ _ _ h _ => by cases h; exact .int _
instance (i j : Int) : Decidable (CMul i j) := inferInstanceAs (Decidable ((-(2 ^ 64) < i ∧ i < 2 ^ 64) ∨ (-(2 ^ 64) < j ∧ j < 2 ^ 64)))
def rMulD : R2 := fun x y H Q => rI CMul (fun i j => .int (i * j)) x y H Q ∨ rRep x y H Q
theorem op_mulD : OpR X (binaryOp .Mult) rMulD := op_mul.or op_rep
def gMul (d e : D) : Option R := match d, e with
  | .int i, .int j => if CMul i j then some (.val (.int (i * j))) else none
  | .lst a, .int k => if k ≤ 1000000 ∧ -1000000 ≤ k ∧ a.length * k.toNat ≤ LIM then some (.new (List.replicate k.toNat a).flatten) else none
  | _, _ => none
theorem okMul : OpD M rMulD gMul := by
  intro Z H x y dx dy res Q sb nx ny hg k
  unfold gMul at hg
  split at hg
  · split at hg
    · rename_i hl
      cases hg
      have e1 := nx.int; have e2 := ny.int
      subst e1 e2
      exact .inl ⟨_, _, rfl, rfl, hl, k _ Z H (.refl sb) (.int _)⟩
    · cases hg
  · split at hg
    · rename_i hl
      cases hg
      obtain ⟨a, vs, e1, e2, e3⟩ := nx.lst sb
      have f1 := ny.int
      subst e1 f1
      refine .inr ⟨a, _, vs, rfl, rfl, e2, by omega, by omega, by rw [e3.length]; exact lim_line hl.2.2, fun p hp => ?_⟩
      exact k _ Z _ (.own sb hp) ⟨p, _, rfl, upd_same, none_of_sub sb hp, e3.rep _, hp⟩
    · cases hg
  · cases hg
def gMod : D → D → Option R := gInt fun i j => if 0 < j then some (.int (i % j)) else none
theorem okMod : OpD M (rI (fun _ j => 0 < j) fun i j => .int (i % j)) gMod := okInt fun i j d h => by
  by_cases hj : 0 < j
  · rw [if_pos hj] at h; cases h; exact ⟨hj, fun _ => .int _⟩
  · rw [if_neg hj] at h; cases h
def gFdiv : D → D → Option R := gInt fun i j => if 0 < j ∧ j.natAbs.log2 < 9000 then some (.int (i / j)) else none
theorem okFdiv : OpD M (rI CDivW fun i j => .int (i / j)) gFdiv := okInt fun i j d h => by
  by_cases hj : 0 < j ∧ j.natAbs.log2 < 9000
  · rw [if_pos hj] at h; cases h; exact ⟨hj, fun _ => .int _⟩
  · rw [if_neg hj] at h; cases h
def gPow : D → D → Option R := gInt fun i j => if 0 ≤ j ∧ j ≤ 1000000 ∧ i.natAbs < 2 ^ 64 then some (.int (i ^ j.toNat)) else none
theorem okPow : OpD M (rI CPow fun i j => .int (i ^ j.toNat)) gPow := okInt fun i j d h => by
  by_cases hj : 0 ≤ j ∧ j ≤ 1000000 ∧ i.natAbs < 2 ^ 64
  · rw [if_pos hj] at h; cases h; exact ⟨hj, fun _ => .int _⟩
  · rw [if_neg hj] at h; cases h
def gNeg (d : D) : Option R := match d with
  | .int i => some (.val (.int (-i)))
  | _ => none
/-! ### comparisons -/
def gLt : D → D → Option R := gInt fun i j => some (.bl (decide (i < j)))
def gLe : D → D → Option R := gInt fun i j => some (.bl (decide (i ≤ j)))
def gGt : D → D → Option R := gInt fun i j => some (.bl (decide (j < i)))
def gGe : D → D → Option R := gInt fun i j => some (.bl (decide (j ≤ i)))
theorem okLt : OpD M (rI0 fun i j => .bl (decide (i < j))) gLt := okInt0 fun _ _ _ h _ => by cases h; exact .bl _
theorem okGt : OpD M (rI0 fun i j => .bl (decide (j < i))) gGt := okInt0 fun _ _ _ h _ => by cases h; exact .bl _
theorem okGe : OpD M (rI0 fun i j => .bl (decide (j ≤ i))) gGe := okInt0 fun _ _ _ h _ => by cases h; exact .bl _
mutual
def D.toP : D → PyData
  | .non => .none
  | .bl b => .bool b
  | .int i => .int i
  | .str x => .str x
  | .tup xs => .tuple (toPs xs)
  | .lst xs => .list (toPs xs)
  | .scr xs => .list (toPs xs)
  | .obj _ _ _ => .dict []
  | .ref _ => .dict []
  | .exc _ _ _ => .dict []
def toPs : List D → List PyData
  | [] => []
  | d :: ds => d.toP :: toPs ds
end
/-- data of the depth n at most -/
def D.shp : Nat → D → Bool
  | _, .non => true
  | _, .bl _ => true
  | _, .int _ => true
  | _, .str x => (PyData.str x).canLay0
  | n + 1, .tup xs => xs.all (D.shp n)
  | n + 1, .lst xs => xs.all (D.shp n)
  | _, _ => false
theorem lay_all : ∀ ds : List D, (∀ d ∈ ds, (D.toP d).canLay0 = true) → PyData.canLayAll0 (toPs ds) = true
  | [], _ => rfl
  | d :: ds, h => by
    rw [toPs, PyData.canLayAll0, h d List.mem_cons_self, lay_all ds fun e he => h e (List.mem_cons_of_mem _ he)]
    rfl
theorem depth_all {n : Nat} : ∀ ds : List D, (∀ d ∈ ds, (D.toP d).depth ≤ n) → PyData.depthAll (toPs ds) ≤ n
  | [], _ => Nat.zero_le _
  | d :: ds, h => by
    rw [toPs, PyData.depthAll]
    exact Nat.max_le.mpr ⟨h d List.mem_cons_self, depth_all ds fun e he => h e (List.mem_cons_of_mem _ he)⟩
theorem shp_ok : ∀ (n : Nat) (d : D), D.shp n d = true → d.toP.canLay0 = true ∧ d.toP.depth ≤ n
  | n, .non, _ => ⟨rfl, Nat.zero_le _⟩
  | n, .bl _, _ => ⟨rfl, Nat.zero_le _⟩
  | n, .int _, _ => ⟨rfl, Nat.zero_le _⟩
  | 0, .str x, h => ⟨h, Nat.zero_le _⟩
  | n + 1, .str x, h => ⟨h, Nat.zero_le _⟩
  | 0, .tup _, h => by cases h
  | 0, .lst _, h => by cases h
  | n + 1, .tup xs, h => by
    have h : ∀ d ∈ xs, D.shp n d = true := List.all_eq_true.mp h
    exact ⟨lay_all xs fun d hd => (shp_ok n d (h d hd)).1, Nat.succ_le_succ (depth_all xs fun d hd => (shp_ok n d (h d hd)).2)⟩
  | n + 1, .lst xs, h => by
    have h : ∀ d ∈ xs, D.shp n d = true := List.all_eq_true.mp h
    exact ⟨lay_all xs fun d hd => (shp_ok n d (h d hd)).1, Nat.succ_le_succ (depth_all xs fun d hd => (shp_ok n d (h d hd)).2)⟩
  | 0, .scr _, h => by cases h
  | n + 1, .scr _, h => by cases h
  | 0, .obj _ _ _, h => by cases h
  | n + 1, .obj _ _ _, h => by cases h
  | 0, .ref _, h => by cases h
  | n + 1, .ref _, h => by cases h
  | 0, .exc _ _ _, h => by cases h
  | n + 1, .exc _ _ _, h => by cases h
theorem shaped_of {d : D} (h : d.shp 8 = true) : SeqAt.shaped d.toP = true := by
  obtain ⟨h1, h2⟩ := shp_ok 8 d h
  unfold SeqAt.shaped
  rw [h1, decide_eq_true (by omega)]
  rfl
mutual
theorem Rp.dp {Z H : Hp} (s : Sub Z H) : ∀ {v : V} {d : D}, Rp M Z v d → (∃ n, d.shp n = true) → Dp M.K H v d.toP
  | _, _, .non, _ => .non
  | _, _, .bl b, _ => .bl b
  | _, _, .int b, _ => .int b
  | _, _, .str b, _ => .str b
  | _, _, .tup h r, ⟨n, hn⟩ => .tup (seqT s.th h.seq) (Rps.dp s r (by cases n with
    | zero => cases hn
    | succ n => exact ⟨n, List.all_eq_true.mp hn⟩))
  | _, _, .lst h r, ⟨n, hn⟩ => .lst (.inl (.inl (s.th _ _ h rfl))) (Rps.dp s r (by cases n with
    | zero => cases hn
    | succ n => exact ⟨n, List.all_eq_true.mp hn⟩))
  | _, _, .scr h r, ⟨n, hn⟩ => by cases n <;> cases hn
  | _, _, .obj h m l r, ⟨n, hn⟩ => by cases n <;> cases hn
  | _, _, .ref h, ⟨n, hn⟩ => by cases n <;> cases hn
  | _, _, .exc h m q l r, ⟨n, hn⟩ => by cases n <;> cases hn
theorem Rps.dp {Z H : Hp} (s : Sub Z H) : ∀ {v : List V} {d : List D}, Rps M Z v d → (∃ n, ∀ e ∈ d, e.shp n = true) → DpAll M.K H v (toPs d)
  | _, _, .nil, _ => .nil
  | _, _, .cons h r, ⟨n, hn⟩ => .cons (Rp.dp s h ⟨n, hn _ List.mem_cons_self⟩) (Rps.dp s r ⟨n, fun e he => hn e (List.mem_cons_of_mem _ he)⟩)
end
theorem Now.dp {Z H : Hp} {v : V} {d : D} (h : Now M Z H v d) (s : Sub Z H) (hd : d.shp 8 = true) : Dp M.K H v d.toP := by
  rcases h with h | ⟨a, vs, xs, e1, e2, e3, e4⟩
  · exact h.dp s ⟨8, hd⟩
  · subst e1 e2
    exact .lst (.inl (.inl e3)) (e4.dp s ⟨7, List.all_eq_true.mp hd⟩)
def gEq (d e : D) : Option R := if d.shp 8 && e.shp 8 then some (.val (.bl (PyData.eqv d.toP e.toP))) else none
def gNe (d e : D) : Option R := if d.shp 8 && e.shp 8 then some (.val (.bl (!PyData.eqv d.toP e.toP))) else none
theorem okEq : OpD M (rEqD M.K) gEq := by
  intro Z H x y dx dy res Q sb nx ny hg k
  unfold gEq at hg
  split at hg
  · rename_i h
    cases hg
    obtain ⟨h1, h2⟩ := Bool.and_eq_true_iff.mp h
    exact ⟨_, _, nx.dp sb h1, ny.dp sb h2, shaped_of h1, shaped_of h2, k _ Z H (.refl sb) (.bl _)⟩
  · cases hg
theorem okNe : OpD M (rNeD M.K) gNe := by
  intro Z H x y dx dy res Q sb nx ny hg k
  unfold gNe at hg
  split at hg
  · rename_i h
    cases hg
    obtain ⟨h1, h2⟩ := Bool.and_eq_true_iff.mp h
    exact ⟨_, _, nx.dp sb h1, ny.dp sb h2, shaped_of h1, shaped_of h2, k _ Z H (.refl sb) (.bl _)⟩
  · cases hg
/-- is None -/
def gIsN (d e : D) : Option R := match e with
  | .non => some (.val (.bl (match d with | .non => true | _ => false)))
  | _ => none
def gNotN (d e : D) : Option R := match e with
  | .non => some (.val (.bl (match d with | .non => false | _ => true)))
  | _ => none
/-- in, not in: flat things in a list or a tuple; texts -/
def D.flat : D → Option V
  | .non => some .non
  | .bl b => some (.bl b)
  | .int i => some (.int i)
  | .str x => some (.str x)
  | _ => none
def flats : List D → Option (List V)
  | [] => some []
  | d :: ds => match d.flat, flats ds with
    | some v, some vs => some (v :: vs)
    | _, _ => none
theorem flat_of {Z H : Hp} {v w : V} {d : D} (h : Now M Z H v d) (e : d.flat = some w) : v = w ∧ flatV v = true := by
  rcases h with h | ⟨a, vs, xs, e1, e2, e3, e4⟩
  · cases h <;> first | (cases e; exact ⟨rfl, rfl⟩) | cases e
  · subst e2; cases e
theorem flats_of {Z : Hp} : ∀ {vs ws : List V} {ds : List D}, Rps M Z vs ds → flats ds = some ws → vs = ws ∧ vs.all flatV = true
  | _, _, _, .nil, e => by cases e; exact ⟨rfl, rfl⟩
  | _, ws, _, @Rps.cons _ _ v d vs ds h r, e => by
    unfold flats at e
    cases q1 : d.flat with
    | none => rw [q1] at e; cases e
    | some w =>
      cases q2 : flats ds with
      | none => rw [q1, q2] at e; cases e
      | some ws' =>
        rw [q1, q2] at e
        cases e
        obtain ⟨a, b⟩ := flat_of (H := Z) (.inl h) q1
        obtain ⟨c, d⟩ := flats_of r q2
        subst a c
        exact ⟨rfl, by rw [List.all_cons, b, d]; rfl⟩
def seqOf : D → Option (List D)
  | .tup xs => some xs
  | .lst xs => some xs
  | .scr xs => some xs
  | _ => none
theorem seq_of {Z H : Hp} {v : V} {d : D} {xs : List D} (h : Now M Z H v d) (s : Sub Z H) (e : seqOf d = some xs) : ∃ a vs, v = .ref a ∧ (SqL M.K H a vs ∨ SqT M.K H a vs) ∧ Rps M Z vs xs := by
  cases d with
  | tup ys =>
    cases e
    obtain ⟨a, vs, e1, e2, _, e3⟩ := h.tup s
    exact ⟨a, vs, e1, .inr e2, e3⟩
  | lst ys =>
    cases e
    obtain ⟨a, vs, e1, e2, e3⟩ := h.lst s
    exact ⟨a, vs, e1, .inl (.inl (.inl e2)), e3⟩
  | scr ys =>
    cases e
    obtain ⟨a, vs, e1, e2, e3⟩ := h.scr s
    exact ⟨a, vs, e1, .inl e2, e3⟩
  | _ => cases e
def inS (x z : Str) : Bool := !(Builtin.Str.occurrences z x 0 z.length 1).isEmpty
/-- among the items of a list, of any depth -/
def gInDat (neg : Bool) (d : D) (xs : List D) : Option R := if d.shp 8 && (D.lst xs).shp 8 then some (.val (.bl (if neg then !((toPs xs).any fun z => PyData.eqv z d.toP) else (toPs xs).any fun z => PyData.eqv z d.toP))) else none
def gInSeq (neg : Bool) (d : D) : D → Option R
  | .lst xs => gInDat neg d xs
  | _ => none
def gIn (neg : Bool) (d e : D) : Option R := match d, e with
  | .str x, .str z => some (.val (.bl (if neg then !inS x z else inS x z)))
  | d, e => match seqOf e with
    | some xs => match d.flat, flats xs with
      | some v, some vs => some (.val (.bl (if neg then !inV v vs else inV v vs)))
      | _, _ => gInSeq neg d e
    | none => none
def rInD' (K : PySem.W.Frag) : R2 := fun x y H Q => (rIn K false x y H Q ∨ ∃ i j, x = .str i ∧ y = .str j ∧ Q (.bl (!(Builtin.Str.occurrences j i 0 j.length 1).isEmpty)) H) ∨ rInD K x y H Q
theorem op_inD' (hu : X.A.units + 65 < cLine) : OpR X (compareOp .In) (rInD' X.K) := (op_in_seq.or op_in_str).or (op_inD hu)
theorem inDat_ok {neg : Bool} {Z H : Hp} {x y : V} {dx dy : D} {res : R} (sb : Sub Z H) (nx : Now M Z H x dx) (ny : Now M Z H y dy) (h : gInSeq neg dx dy = some res) :
    ∃ d ds, Dp M.K H x d ∧ Dp M.K H y (.list ds) ∧ SeqAt.shaped d = true ∧ SeqAt.shaped (.list ds) = true ∧ res = .val (.bl (if neg then !(ds.any fun z => PyData.eqv z d) else ds.any fun z => PyData.eqv z d)) := by
  unfold gInSeq at h
  split at h
  · rename_i xs
    unfold gInDat at h
    split at h
    · rename_i q
      cases h
      obtain ⟨h1, h2⟩ := Bool.and_eq_true_iff.mp q
      exact ⟨_, _, nx.dp sb h1, ny.dp sb h2, shaped_of h1, shaped_of h2, rfl⟩
    · cases h
  · cases h
theorem okIn : OpD M (rInD' M.K) (gIn false) := by
  intro Z H x y dx dy res Q sb nx ny hg k
  unfold gIn at hg
  split at hg
  · cases hg
    have e1 := nx.str; have e2 := ny.str
    subst e1 e2
    exact .inl (.inr ⟨_, _, rfl, rfl, k _ Z H (.refl sb) (.bl _)⟩)
  · cases q : seqOf dy with
    | none => rw [q] at hg; cases hg
    | some xs =>
      rw [q] at hg
      simp only at hg
      cases q1 : dx.flat with
      | none =>
        rw [q1] at hg
        obtain ⟨d, ds, g1, g2, g3, g4, rfl⟩ := inDat_ok sb nx ny hg
        exact .inr ⟨d, ds, g1, g2, g3, g4, k _ Z H (.refl sb) (.bl _)⟩
      | some v =>
        cases q2 : flats xs with
        | none =>
          rw [q1, q2] at hg
          obtain ⟨d, ds, g1, g2, g3, g4, rfl⟩ := inDat_ok sb nx ny hg
          exact .inr ⟨d, ds, g1, g2, g3, g4, k _ Z H (.refl sb) (.bl _)⟩
        | some vs =>
          rw [q1, q2] at hg
          cases hg
          obtain ⟨a, ws, e1, e2, e3⟩ := seq_of ny sb q
          obtain ⟨f1, f2⟩ := flat_of nx q1
          obtain ⟨f3, f4⟩ := flats_of e3 q2
          subst e1 f1 f3
          exact .inl (.inl ⟨a, ws, rfl, e2, f2, f4, k _ Z H (.refl sb) (.bl _)⟩)
/-! ### subscripts, slices -/
def gIx (d e : D) : Option R := match e with
  | .int i => match d with
    | .str z => if z.length ≤ LIM then (match atI z.cps.toList i with
      | some c => some (.val (.str ⟨#[c]⟩))
      | none => none) else none
    | d => match seqOf d with
      | some xs => (atI xs i).map R.val
      | none => none
  | _ => none
theorem Rps.atI {Z : Hp} {vs : List V} {ds : List D} {i : Int} {d : D} (r : Rps M Z vs ds) (h : L2.atI ds i = some d) : ∃ v, L2.atI vs i = some v ∧ Rp M Z v d := by
  unfold L2.atI at h ⊢
  rw [r.length]
  cases q : ixN ds.length i with
  | none => rw [q] at h; cases h
  | some j =>
    rw [q] at h
    obtain ⟨v, e1, e2⟩ := r.get (i := j) (d := d) h
    exact ⟨v, e1, e2⟩
theorem okIx : OpD M (rIx M.K) gIx := by
  intro Z H x y dx dy res Q sb nx ny hg k
  unfold gIx at hg
  split at hg
  · rename_i i
    have f1 := ny.int
    subst f1
    split at hg
    · rename_i z
      have e1 := nx.str
      subst e1
      split at hg
      · rename_i hl
        split at hg
        · rename_i c hc
          cases hg
          exact .inr (.inr ⟨z, i, c, rfl, rfl, lim_line hl, hc, k _ Z H (.refl sb) (.str _)⟩)
        · cases hg
      · cases hg
    · cases q : seqOf dx with
      | none => rw [q] at hg; cases hg
      | some xs =>
        rw [q] at hg
        simp only at hg
        cases q1 : L2.atI xs i with
        | none => rw [q1] at hg; cases hg
        | some d =>
          rw [q1] at hg
          cases hg
          obtain ⟨a, ws, e1, e2, e3⟩ := seq_of nx sb q
          subst e1
          obtain ⟨v, g1, g2⟩ := e3.atI q1
          rcases e2 with e2 | e2
          · exact .inl ⟨a, ws, i, v, rfl, rfl, e2, g1, k _ Z H (.refl sb) g2⟩
          · exact .inr (.inl ⟨a, ws, i, v, rfl, rfl, e2, g1, k _ Z H (.refl sb) g2⟩)
  · cases hg
def cutD (xs : List D) (lo hi : Option Int) : List D := (xs.drop (HT.sIx xs.length 0 lo)).take (HT.sIx xs.length xs.length hi - HT.sIx xs.length 0 lo)
theorem Rps.cut {Z : Hp} {vs : List V} {ds : List D} (r : Rps M Z vs ds) (lo hi : Option Int) : Rps M Z (cutV vs lo hi) (cutD ds lo hi) := by
  unfold cutV cutD
  rw [r.length]
  exact (r.drop _).take _
def gSl (d : D) (lo hi : Option Int) : Option R := match d with
  | .str z => if z.length ≤ LIM then some (.val (.str (cutS z lo hi))) else none
  | .tup xs => some (.val (.tup (cutD xs lo hi)))
  | .lst xs => some (.new (cutD xs lo hi))
  | .scr xs => some (.new (cutD xs lo hi))
  | _ => none
def rSlD (K : PySem.W.Frag) : V → Option Int → Option Int → Hp → VK → Prop := fun x lo hi H Q => rSlS x lo hi H Q ∨ rSlF K x lo hi H Q ∨ rSlL K x lo hi H Q
theorem sl_D : SlR X (rSlD X.K) := sl_str.or (sl_tupF.or sl_list)
theorem cutD_whole {xs : List D} {lo hi : Option Int} (h : HT.sIx xs.length 0 lo = 0 ∧ HT.sIx xs.length xs.length hi = xs.length) : cutD xs lo hi = xs := by
  unfold cutD
  rw [h.1, h.2, List.drop_zero, Nat.sub_zero, List.take_length]
theorem okSl {Z H : Hp} {x : V} {d : D} {lo hi : Option Int} {res : R} {Q : VK} (sb : Sub Z H) (nx : Now M Z H x d) (hg : gSl d lo hi = some res) (k : ∀ v Z' H', Grow Z H Z' H' → RN M Z' H' H v res → Q v H') : rSlD M.K x lo hi H Q := by
  unfold gSl at hg
  split at hg
  · split at hg
    · rename_i hl
      cases hg
      have e1 := nx.str
      subst e1
      exact .inl ⟨_, rfl, lim_line hl, k _ Z H (.refl sb) (.str _)⟩
    · cases hg
  · rename_i xs
    cases hg
    obtain ⟨a, vs, e1, e2, e2', e3⟩ := nx.tup sb
    subst e1
    refine .inr (.inl ⟨a, vs, rfl, e2, fun z => ?_, fun z p o hp hd => ?_⟩)
    · rw [e3.length] at z
      rw [cutD_whole z] at k
      exact k _ Z H (.refl sb) (.tup e2' e3)
    · have g := Grow.frz (o := .frz o (.tup (cutV vs lo hi))) sb hp
      exact k _ _ _ g (.tup (.inl ⟨o, upd_same, hd⟩) ((e3.cut lo hi).mono g.sub))
  · cases hg
    obtain ⟨a, vs, e1, e2, e3⟩ := nx.lst sb
    subst e1
    exact .inr (.inr ⟨a, vs, rfl, .inl (.inl e2), fun p hp => k _ Z _ (.own sb hp) ⟨p, _, rfl, upd_same, none_of_sub sb hp, e3.cut lo hi, hp⟩⟩)
  · cases hg
    obtain ⟨a, vs, e1, e2, e3⟩ := nx.scr sb
    subst e1
    exact .inr (.inr ⟨a, vs, rfl, e2, fun p hp => k _ Z _ (.own sb hp) ⟨p, _, rfl, upd_same, none_of_sub sb hp, e3.cut lo hi, hp⟩⟩)
  · cases hg
end
end DV
namespace DV
open PySem PySem.Spec L2
section
variable {X : Cx} {W : WX} {M : MC}
/-! ### slices -/
abbrev SO := Ev → Out (Option Int)
def tO (M : MC) (W : WX) (f : SO) : TO := fun σ H Q => ∃ Z env, Rep M Z H env σ ∧ Post M W Z H env σ (f env) fun o e Z' H' => Q o H'
def DO (W : WX) (X : Cx) (e : Option Expr) (f : SO) : Prop := PO X e (tO (mc X) W f)
def oNo : SO := fun env => .ok none env
def oSome (s : SE) : SO := fun env => (s env).bind fun r e => match r.read e with
  | some (.int i) => .ok (some i) e
  | _ => .bad
theorem do_no : DO W X none oNo := ⟨fun pins s σ H Q I ⟨Z, env, rep, h⟩ => (po_none (X := X)).run pins s σ H Q I (h _ _ (.refl rep))⟩
theorem do_some {e : Expr} {s : SE} (h : DE W X e s) : DO W X (some e) (oSome s) := by
  refine ⟨fun pins s' σ H Q I ⟨Z, env, rep, hp⟩ => (po_some h).run pins s' σ H Q I ⟨Z, env, rep, hp.bind.mono fun r e Z1 H1 x1 p v rr => ?_⟩⟩
  split at p
  · rename_i i q
    exact ⟨i, (rr.now x1.rep q).int, p.ok x1.rep⟩
  · exact p.elim
def vSl (s : SE) (lo hi : SO) : SE := fun env => (s env).bind fun r e1 => (lo e1).bind fun l e2 => (hi e2).bind fun u e3 => match r.read e3 with
  | some d => match gSl d l u with
    | some res => .ok res e3
    | none => .bad
  | none => .bad
theorem de_slice {e : Expr} {lo hi : Option Expr} {s : SE} {l u : SO} {pos p2 : Pos} (he : DE W X e s) (hl : DO W X lo l) (hu : DO W X hi u) : DE W X (.Subscript e (.Slice lo hi none p2) pos) (vSl s l u) := by
  refine weakE (pe_slice sl_D he hl hu) fun σ H Q ⟨Z, env, rep, h⟩ => ⟨Z, env, rep, h.bind.mono fun r e1 Z1 H1 x1 p v rr => ⟨Z1, e1, x1.rep, p.bind.mono fun o1 e2 Z2 H2 x2 p2 => ⟨Z2, e2, x2.rep, p2.bind.mono fun o2 e3 Z3 H3 x3 p3 => ?_⟩⟩⟩
  cases q : r.read e3 with
  | none => rw [q] at p3; exact p3.elim
  | some d =>
    rw [q] at p3
    simp only at p3
    cases q2 : gSl d o1 o2 with
    | none => rw [q2] at p3; exact p3.elim
    | some res =>
      rw [q2] at p3
      have r3 := (rr.stay x2).stay x3
      exact okSl (M := mc X) x3.rep.sub (r3.now x3.rep q) q2 fun v' Z4 H4 gr rn => p3.okG x3.rep gr v' (rn.rr x3.rep ((x1.trans x2).trans x3).alive)
/-! ### attributes of things that never change -/
def vFld (c f : Str) (s : SE) : SE := fun env => (s env).bind fun r e => match r.read e with
  | some (.obj c' ks ds) => if c' = c then (match (ks.zip ds).lookup f with
    | some d => .ok (.val d) e
    | none => .bad) else .bad
  | _ => .bad
/-! ### an own list changes -/
variable {Z H Z' H' Z1 H1 Z2 H2 H0 : Hp} {env env' env1 env2 : Ev} {σ σ' σ1 σ2 : SV} {a : Addr}
theorem Aft.chgS {i : Nat} {s s' : Sl} {xs xs' : List D} {vs' : List V} (x : Aft M Z H env σ Z1 H1 env1 σ1) (h : env1[i]? = some s) (hm : s.mc? = some xs) (ha : σ1[i]? = some (some (V.ref a))) (r : Rps M Z1 vs' xs') (r1 : s'.cel? = some xs') (r3 : s'.isPin = s.isPin) (r4 : ∀ d, s' ≠ .val d) (r5 : ∀ ys, s' ≠ .lent ys) : Aft M Z H env σ Z1 (upd H1 a (s'.ho M a vs')) (env1.set i s') σ1 := by
  have hi : i < env1.length := (List.getElem?_eq_some_iff.mp h).1
  obtain ⟨b, ws, e1, e2, e3, e4⟩ := x.rep.lst i s xs h (Sl.lst_of_mut hm)
  rw [ha] at e1
  cases e1
  have oa : Owned env1 σ1 a := ⟨i, s, xs, h, hm, ha⟩
  have nw : s'.isW = false := by cases s' <;> first | rfl | cases r1
  have nt : ∀ b n, Z1 b = some (.own n) → b ≠ a := fun b n e z => by rw [z, e3] at e; cases e
  refine ⟨⟨by rw [List.length_set]; exact x.rep.len, ⟨fun b o e t => ?_, fun b e => ?_⟩, fun j d e => ?_, fun j t ys f1 f2 => ?_, fun j k sj sk xj xk b f1 f2 f3 f4 f5 f6 => ?_, fun j S e => (x.rep.wld j S (w_of_set nw e)).mono (Same.refl _) (fun _ _ h => h) (fun b n e => upd_ne (nt b n e)), fun j k S T e1 e2 => x.rep.wone j k S T (w_of_set nw e1) (w_of_set nw e2)⟩, x.sub, fun b h1 h2 h3 => ?_, fun b h1 => ?_, fun b ho => ?_, fun j t h1 h2 => ?_, fun j t h1 h2 => ?_, fun j ys h1 => ?_, fun j ys h1 => ?_, (WK.mk x.wk.has x.wk.was x.wk.tags (fun n b k e => (upd_ne (nt b k (x.sub _ _ e))).trans (x.wk.kept n b k e)) : WK Z H env Z1 (upd H1 a (s'.ho M a vs')) env1).set (fun S e => by rw [h] at e; cases e; cases hm) nw⟩
  · have : b ≠ a := fun z => by rw [z, e3] at e; cases e
    rw [upd_ne this]; exact x.rep.sub.th _ _ e t
  · have : b ≠ a := fun z => e (by rw [z]; exact e3)
    rw [upd_ne this]; exact x.rep.sub.al _ e
  · by_cases hj : i = j
    · subst hj
      rw [List.getElem?_set_self hi] at e
      exact absurd (Option.some.inj e) (r4 d)
    · rw [List.getElem?_set_ne hj] at e; exact x.rep.val j d e
  · by_cases hj : i = j
    · subst hj
      rw [List.getElem?_set_self hi] at f1
      cases f1
      rw [r1] at f2
      cases f2
      exact ⟨a, vs', ha, upd_same, e3, r⟩
    · rw [List.getElem?_set_ne hj] at f1
      obtain ⟨b, us, g1, g2, g3, g4⟩ := x.rep.lst j t ys f1 f2
      have : b ≠ a := fun z => hj (x.rep.apart i j s t xs ys a h f1 (Sl.lst_of_mut hm) f2 ha (by rw [g1, z]))
      exact ⟨b, us, g1, by rw [upd_ne this]; exact g2, g3, g4⟩
  · have key : ∀ (j : Nat) (t : Sl) (ys : List D), (env1.set i s')[j]? = some t → t.cel? = some ys → ∃ t' ys', env1[j]? = some t' ∧ t'.cel? = some ys' := fun j t ys g1 g2 => by
      by_cases hj : i = j
      · subst hj; exact ⟨s, xs, h, Sl.lst_of_mut hm⟩
      · rw [List.getElem?_set_ne hj] at g1; exact ⟨t, ys, g1, g2⟩
    obtain ⟨t, ys, g1, g2⟩ := key j sj xj f1 f3
    obtain ⟨u, zs, g3, g4⟩ := key k sk xk f2 f4
    exact x.rep.apart j k t u ys zs b g1 g3 g2 g4 f5 f6
  · have : b ≠ a := fun z => by
      subst z
      rcases x.owned b oa with z | z
      · exact h2 z
      · exact h1 z
    rw [upd_ne this]; exact x.kept b h1 h2 h3
  · by_cases z : b = a
    · subst z; rw [upd_same]; simp
    · rw [upd_ne z]; exact x.alive b h1
  · obtain ⟨j, t, ys, f1, f2, f3⟩ := ho
    by_cases hj : i = j
    · subst hj
      rw [ha] at f3
      cases f3
      exact x.owned a oa
    · rw [List.getElem?_set_ne hj] at f1
      exact x.owned b ⟨j, t, ys, f1, f2, f3⟩
  · obtain ⟨e, s', g1, g2⟩ := x.pins j t h1 h2
    refine ⟨e, ?_⟩
    by_cases hj : i = j
    · subst hj
      rw [h] at g1; cases g1
      exact ⟨_, List.getElem?_set_self hi, by rw [r3]; exact g2⟩
    · exact ⟨s', by rw [List.getElem?_set_ne hj]; exact g1, g2⟩
  · by_cases hj : i = j
    · subst hj
      rw [List.getElem?_set_self hi] at h1
      cases h1
      exact x.unpin i s h (by rw [← r3]; exact h2)
    · rw [List.getElem?_set_ne hj] at h1; exact x.unpin j t h1 h2
  · obtain ⟨e, g1⟩ := x.lents j ys h1
    refine ⟨e, ?_⟩
    have hj : i ≠ j := fun z => by
      subst z
      rw [h] at g1; cases g1; cases hm
    rw [List.getElem?_set_ne hj]; exact g1
  · by_cases hj : i = j
    · subst hj
      rw [List.getElem?_set_self hi] at h1
      exact absurd (Option.some.inj h1) (r5 ys)
    · rw [List.getElem?_set_ne hj] at h1; exact x.unlent j ys h1
theorem Aft.chg {i : Nat} {s : Sl} {xs xs' : List D} {vs' : List V} (x : Aft M Z H env σ Z1 H1 env1 σ1) (h : env1[i]? = some s) (hm : s.mut? = some xs) (ha : σ1[i]? = some (some (V.ref a))) (r : Rps M Z1 vs' xs') : Aft M Z H env σ Z1 (upd H1 a (.lst vs')) (env1.set i (s.re xs')) σ1 := by
  have hm' : s.mut?.isSome = true := by rw [hm]; rfl
  obtain ⟨r1, r2, r3, r4, r5⟩ := re_lst (ys := xs') hm'
  have := x.chgS h (Sl.mc_of_mut hm).1 ha r r1 r3 r4 r5
  rwa [show (s.re xs').ho M a vs' = .lst vs' from by rw [re_ho hm']; rfl] at this
def mutAt (e : Ev) (i : Nat) : Option (List D) := match e[i]? with
  | some s => s.mut?
  | none => none
theorem mutAt_some {e : Ev} {i : Nat} {xs : List D} (h : mutAt e i = some xs) : ∃ s, e[i]? = some s ∧ s.mut? = some xs := by
  unfold mutAt at h
  split at h
  · rename_i s q; exact ⟨s, q, h⟩
  · cases h
def putAt (e : Ev) (i : Nat) (xs : List D) : Ev := match e[i]? with
  | some s => e.set i (s.re xs)
  | none => e
def vMut (i : Nat) (f : List D → List D → Option (D × List D)) (t : SL) : SE := fun env => if (mutAt env i).isSome then ((t env).bind fun rs e => match escs rs e with
  | some (ds, e1) => match mutAt e1 i with
    | some xs => match f xs ds with
      | some (d, xs') => .ok (.val d) (putAt e1 i xs')
      | none => .bad
    | none => .bad
  | none => .bad) else .bad
/-! ### x[i] = e, x[i] op= e, x op= e -/
/-- the value first, then the index, then the store into the list of slot j -/
def sSetIx (j : Nat) (si s : SE) : SS := fun env => if (mutAt env j).isSome then ((s env).bind fun r e1 => match r.esc e1 with
  | some (d, e2) => (si e2).bind fun ri e3 => match ri.read e3 with
    | some (.int k) => match mutAt e3 j with
      | some xs => match ixN xs.length k with
        | some n => .ok .nx (putAt e3 j (xs.set n d))
        | none => .bad
      | none => .bad
    | _ => .bad
  | none => .bad) else .bad
theorem ds_setIx (j : Nat) {x : Str} {i e : Expr} {si s : SE} {pos npos tpos : Pos} (he : DE W X e s) (hi : DE W X i si) (hN : X.N[j]? = some x := by rfl) (hv : Vis X.env.scope x := by first | exact Or.inl rfl | exact Or.inr (Or.inl rfl) | exact Or.inr (Or.inr rfl)) (hd : (x == ("__debug__" : Str)) = false := by decide)
    (hcd : (x == ("__classdict__" : Str)) = false := by decide)
    (ha : ∀ v, assign (.Subscript (.Name x npos) i tpos) X.env v = (do
      let ov ← holding [v] (eval (.Name x npos) X.env)
      let iv ← holding [v, ov] (eval i X.env)
      standAt tpos
      holding [v, ov, iv] (setItem ov iv v)
      release [v, ov, iv] []) := by intro _; rfl)
    (hs : swapsWithSole [.Subscript (.Name x npos) i tpos] e pos.line X.env = pure false := by rfl) (hw : swappedStores [.Subscript (.Name x npos) i tpos] e X.env = pure none := by rfl)
    (h1 : (assignEach [.Subscript (.Name x npos) i tpos] X.env).map (·.2) = [assign (.Subscript (.Name x npos) i tpos) X.env] := by rfl) : DS W X (.Assign [.Subscript (.Name x npos) i tpos] e pos) (sSetIx j si s) := by
  refine weakS (ps_asg he (pg_sub (pe_var (i := j) hN hv hd hcd) hi set_list ha) hs hw h1) fun D σ H ⟨Z, env, rep, h⟩ => ?_
  unfold sSetIx at h
  cases q0 : mutAt env j with
  | none => rw [q0] at h; exact h.elim
  | some ys =>
    rw [q0] at h
    have h : PostS (mc X) W Z H env σ ((s env).bind _) D := h
    obtain ⟨s0, g1, g2⟩ := mutAt_some q0
    obtain ⟨a, vs0, a1, a2, a3, a4⟩ := rep.lst' j s0 ys g1 (Sl.lst_mut g2)
    refine ⟨Z, env, rep, (PostS.bind h).mono fun r e1 Z1 H1 x1 p v rr => ⟨.ref a, a1, ?_⟩⟩
    cases q : r.esc e1 with
    | none => rw [q] at p; exact p.elim
    | some dd =>
      obtain ⟨d, e2⟩ := dd
      rw [q] at p
      have p : PostS (mc X) W Z H env σ ((si e2).bind _) D := p
      obtain ⟨Z2, r2, y2⟩ := RR.escape rr x1.rep x1.alive q
      have x2 := x1.escaped y2
      refine ⟨Z2, e2, x2.rep, (PostS.bind1 x2 p).mono fun ri e3 Z3 H3 x3 p3 vi rri => ?_⟩
      have x4 := x2.trans x3
      split at p3
      · rename_i k qk
        split at p3
        · rename_i xs qm
          split at p3
          · rename_i n qn
            obtain ⟨s1, b1, b2⟩ := mutAt_some qm
            obtain ⟨a', vs1, c1, c2, c3, c4⟩ := x3.rep.lst' j s1 xs b1 (Sl.lst_mut b2)
            rw [a1] at c1
            cases c1
            refine ⟨a, vs1, k, n, rfl, (rri.now x3.rep qk).int, c2, by rw [c4.length]; exact qn, ?_⟩
            have x5 := x4.chg b1 b2 a1 (c4.set (r2.mono x3.sub) n)
            have e5 : putAt e3 j (xs.set n d) = e3.set j (s1.re (xs.set n d)) := by unfold putAt; rw [b1]
            rw [e5] at p3
            exact p3 _ _ _ x5
          · exact p3.elim
        · exact p3.elim
      · exact p3.elim
/-- name op= e -/
def sAug (i : Nat) (g : D → D → Option R) (s : SE) : SS := fun env => match env[i]? with
  | some (.val d) => (s env).bind fun r e => match r.read e with
    | some d' => match g d d' with
      | some (.val res) => match stv i (.val res) e with
        | some e2 => .ok .nx e2
        | none => .bad
      | _ => .bad
    | none => .bad
  | _ => .bad
end
end DV
namespace DV
open PySem PySem.Spec PyProof.Rows L2
/-! ### a list or a tuple that is drawn from -/
def SqK (k : Bool) (K : PySem.W.Frag) (H : Hp) (a : Addr) (xs : List V) : Prop := if k then SqT K H a xs else SqL K H a xs
def IsK (k : Bool) (h : Heap) (a : Addr) (its : Array Value) : Prop := if k then h.IsTuple a its else h.IsList a its
def IterK (k : Bool) (h : Heap) (it a : Addr) (i : Nat) : Prop := if k then h.IsTupleIter it a i else h.IsListIter it a i
def iterO (k : Bool) (a : Addr) : Obj := if k then { cls := .type "tuple_iterator", data := .fields #[.ref a, .int 0 0] } else { cls := .type "list_iterator", data := .fields #[.ref a, .int 0 0] }
theorem drawsK (k : Bool) {prog : Program} {w : World} {A : Around} (hh : A.handled = none) (it a : Addr) (hne : a ≠ it) (its : Array Value) :
    Draws prog w A it [it, a] its.size (fun i v => its[i]? = some v) (fun i h => IterK k h it a i ∧ IsK k h a its) := by
  cases k with
  | true => exact Draws.tuple hh it a hne its
  | false => exact Draws.list hh it a hne its
theorem beginsK (k : Bool) (a : Addr) (its : Array Value) : Begins (.ref a) (iterO k a) fun h => IsK k h a its := by
  cases k with
  | true => exact begins_tuple a its
  | false => exact begins_list a its
theorem IterK.new (k : Bool) {h : Heap} {it a : Addr} (e : h.get? it = some (iterO k a)) : IterK k h it a 0 := by
  cases k with
  | true => exact ⟨_, e, rfl, rfl⟩
  | false => exact ⟨_, e, rfl, rfl⟩
theorem IterK.at' {k : Bool} {h h' : Heap} {it a : Addr} {i : Nat} (x : IterK k h it a i) (e : ∀ o, h.get? it = some o → h'.get? it = some o) : IterK k h' it a i := by
  cases k with
  | true => obtain ⟨o, e1, e2, e3⟩ : h.IsTupleIter it a i := x; exact ⟨o, e o e1, e2, e3⟩
  | false => obtain ⟨o, e1, e2, e3⟩ : h.IsListIter it a i := x; exact ⟨o, e o e1, e2, e3⟩
theorem IterK.there {k : Bool} {h : Heap} {it a : Addr} {i : Nat} (x : IterK k h it a i) : ∃ o, h.get? it = some o ∧ ∀ v, o.data ≠ .cell v := by
  cases k with
  | true => obtain ⟨o, e1, e2, e3⟩ : h.IsTupleIter it a i := x; exact ⟨o, e1, fun v z => by rw [e3] at z; cases z⟩
  | false => obtain ⟨o, e1, e2, e3⟩ : h.IsListIter it a i := x; exact ⟨o, e1, fun v z => by rw [e3] at z; cases z⟩
section
variable {X : Cx} {pins : List (Addr × Obj)} {σ : L2.St} {H : Hp} {s : Shared} {a : Addr} {xs ys : List V} {k : Bool}
theorem srcK (I : Inv X pins σ H s) (h : SqK k X.K H a xs) : ∃ its : List Value, Vals xs its ∧ IsK k s.heap a its.toArray := by
  cases k with
  | true => obtain ⟨its, r, p, _⟩ := I.tuple h; exact ⟨its, r, p⟩
  | false => obtain ⟨its, r, p, _⟩ := I.list h; exact ⟨its, r, p.isList⟩
theorem injK (I : Inv X pins σ H s) (h : SqK k X.K H a xs) (h' : SqK k X.K H a ys) : xs = ys := by
  cases k with
  | true => exact I.tuple_inj h h'
  | false => exact I.list_inj h h'
theorem IsK.lt {h : Heap} {its : Array Value} (x : IsK k h a its) : a < h.objs.size := by
  cases k with
  | true => obtain ⟨o, e, _⟩ : h.IsTuple a its := x; exact Heap.lt_size e
  | false => obtain ⟨o, e, _⟩ : h.IsList a its := x; exact Heap.lt_size e
end
/-! ### zip -/
structure ZAp (z TI TO i1 i2 a b : Addr) : Prop where
  S : ZipSep2 z TI TO i1 i2 [i1, a] [i2, b]
  n1 : a ≠ i1
  n2 : b ≠ i2
/-! ### enumerate -/
def IteK (k : Bool) (K : PySem.W.Frag) (a : Addr) : It :=
  ⟨fun i H => ∃ (xs : List V) (x : V), SqK k K H a xs ∧ xs[i]? = some x, fun i H v H' => ∃ T x, v = .ref T ∧ H T = none ∧ (∃ o : Obj, o.dict = none ∧ H' = upd H T (.frz o (.tup [.int (i : Nat), x]))) ∧ ∀ xs, SqK k K H a xs → xs[i]? = some x, fun i H => ∃ xs : List V, SqK k K H a xs ∧ xs.length = i⟩
set_option maxHeartbeats 1000000 in
theorem turn_enumK {P : Program} {w : World} {K : PySem.W.Frag} {elts : List Expr} {kk : Nat} {tpos : Pos} {k : Bool} {a e it : Addr} (hei : e ≠ it) (hea : e ≠ a) (hai : a ≠ it) :
    Turn P w K (.Tuple elts kk tpos) (IteK k K a) [e, it] e (fun i h => (∃ old, IsEnum h e it ((i : Nat) : Int) old) ∧ IterK k h it a i) where
  mem := by simp
  obj := fun i h st b hb => by
    obtain ⟨⟨old, he⟩, hi⟩ := st
    have e' : b = e ∨ b = it := by simpa using hb
    rcases e' with z | z
    · rw [z]; exact ⟨_, he, fun v q => nomatch q⟩
    · rw [z]; exact hi.there
  keep := fun i h h' st k => let ⟨⟨old, he⟩, hi⟩ := st; ⟨⟨old, k e (by simp) _ he⟩, hi.at' fun o q => k it (by simp) o q⟩
  item := by
    intro X hP hw hK hc i pins s σ H E I hf st hg
    subst hP hw hK
    obtain ⟨⟨old, he⟩, hit⟩ := st
    obtain ⟨xs, x, hq, hx⟩ := hg
    obtain ⟨its, rv, p⟩ := srcK I hq
    obtain ⟨u, hu, ru⟩ := rv.get hx
    have hel : e < s.heap.objs.size := Heap.lt_size he
    have hil : it < s.heap.objs.size := by obtain ⟨_, q, _⟩ := hit.there; exact Heap.lt_size q
    have hh : X.A.in1.handled = none := I.ok.hd hc
    have D1 := drawsK k (prog := X.prog) (w := X.w) (A := X.A.in1) hh it a hai its.toArray
    refine wpAny_pyNext_enum_itemD D1 he ⟨hit, p⟩ (by simpa using (List.getElem?_eq_some_iff.mp hu).1) hei (by simp [hei, hea]) fun w1 h' tk e1 ho st' hT hsz hk => ?_
    obtain ⟨hit', _⟩ := st'
    have e1 : w1 = u := by
      have : its[i]? = some w1 := by simpa using e1
      rw [hu] at this; exact (Option.some.inj this).symm
    subst e1
    refine ⟨_, rfl, wpAny_letOwnedTupleGo_enum (s := { s with heap := h', toks := tk + 1 }) ho fun h'' he' sb => ?_⟩
    have hT2 : h''.get? s.heap.objs.size = some { cls := .type "tuple", data := .seq #[.int i tk, w1] } := (sb.2 _ (Nat.ne_of_gt hel)).trans hT
    have new : ObjOk X.prog X.w (upd H s.heap.objs.size (.frz { cls := .type "tuple", data := .seq #[.int i tk, w1] } (.tup [.int (i : Nat), x]))) h'' s.heap.objs.size (.frz { cls := .type "tuple", data := .seq #[.int i tk, w1] } (.tup [.int (i : Nat), x])) :=
      ⟨hT2, by show 2 ≤ sizeLine; decide, [.int i tk, w1], .cons ⟨_, rfl⟩ (.cons ru .nil), ⟨_, hT2, rfl, _, rfl⟩⟩
    have I1 : Inv X pins σ (upd H s.heap.objs.size (.frz { cls := .type "tuple", data := .seq #[.int i tk, w1] } (.tup [.int (i : Nat), x]))) { s with heap := h'', toks := tk + 1 } :=
      I.turnedNew (t' := tk + 1) (ch := [e, it]) (fun b ob hb q => (sb.2 b (fun z => hb (by simp [z]))).trans (hk b ob (fun z => hb (by simp [z])) (fun z => hb (by simp [z])) q)) hf (Nat.le_refl _) new
    refine ⟨.ref s.heap.objs.size, _, I1, rfl, ⟨_, x, rfl, I.hok.fresh (Nat.le_refl _), ⟨_, rfl, rfl⟩, fun ys hy => by rw [injK I hy hq]; exact hx⟩, ⟨⟨w1, ?_⟩, hit'.at' fun o q => (sb.2 it (Ne.symm hei)).trans q⟩, fun b hb => ?_⟩
    · have e1 : ((i + 1 : Nat) : Int) = (i : Int) + 1 := by omega
      rw [e1]; exact he'
    · have hb' : b < s.heap.objs.size := by
        have e' : b = e ∨ b = it := by simpa using hb
        rcases e' with z | z
        · rw [z]; exact hel
        · rw [z]; exact hil
      rw [upd_ne (Nat.ne_of_lt hb')]
      exact (hf b hb).1
  done := by
    intro X hP hw hK hc i pins s σ H E I hf st hg
    subst hP hw hK
    obtain ⟨⟨old, he⟩, hit⟩ := st
    obtain ⟨xs, hq, hx⟩ := hg
    obtain ⟨its, rv, p⟩ := srcK I hq
    obtain ⟨f0, f1, f2, f3, f4, f5⟩ := hf it (by simp)
    have hh : X.A.in1.handled = none := I.ok.hd hc
    have D1 := drawsK k (prog := X.prog) (w := X.w) (A := X.A.in1) hh it a hai its.toArray
    have hl := rv.length
    have hi : i = its.toArray.size := by simp; omega
    subst hi
    exact wpAny_pyNext_enum_endD D1 he ⟨hit, p⟩ fun h' eb => ⟨rfl, I.turned (t' := s.toks) (fun b o hb q => eb b o hb q) f0 f1 f3 f4 f5⟩
  self := fun A i s Q E st h => let ⟨⟨_, he⟩, _⟩ := st; wpAny_pyIter_enum he h
set_option maxHeartbeats 1000000 in
theorem meets_enumerate_newB1 {v : Value} {o : Obj} {H : Heap → Prop} (B : Begins v o H) :
    Meets (Builtin.«enumerate.__new__» ⟨[.type "enumerate", v], []⟩) (fun _ R s => H s.heap ∧
      R (.ok (.ret (.ref (s.heap.push o).objs.size))) { s with heap := (s.heap.push o).push { cls := .type "enumerate", data := .fields #[.none, .bool false, .ref s.heap.objs.size, rawInt 0, .none, .none] } }) :=
  .of_wp fun prog w A R s h => by
    obtain ⟨hp, g, d, tk, os⟩ := s; obtain ⟨h1, h⟩ := h
    have hsub := sub_enumerate
    have q1 : ∀ {A' : Around} {E : Value → Shared → Prop} {Q : Value → Shared → Prop}, Q (.ref hp.objs.size) ⟨hp.push o, g, d, tk, os⟩ → wpAny (model prog w) A' (pyIter v) Q E ⟨hp, g, d, tk, os⟩ :=
      fun q => B.iter prog w _ _ ⟨hp, g, d, tk, os⟩ _ h1 q
    wp_walk using q1
    refine wpAny_stack_any fun st => wpAny_pure ?_
    split
    · rename_i c _ _ _ _ _
      cases (c == Value.type "enumerate")
      · wp_walk using q1
        exact ⟨_, rfl, h⟩
      · wp_walk using q1
        exact ⟨_, rfl, h⟩
    · wp_walk using q1
      exact ⟨_, rfl, h⟩
theorem enum_begins1 {prog : Program} {w : World} {A : Around} {E : Value → Shared → Prop} {s : Shared} {v : Value} {o : Obj} {H : Heap → Prop} {Q : Value → Shared → Prop} (B : Begins v o H) (h1 : H s.heap)
    (h : ∀ h', IsEnum h' (s.heap.objs.size + 1) s.heap.objs.size 0 .none → h'.get? s.heap.objs.size = some o → h'.objs.size = s.heap.objs.size + 2 →
      (∀ b o, s.heap.get? b = some o → h'.get? b = some o) → Q (.ref (s.heap.objs.size + 1)) { s with heap := h' }) :
    wpAny (model prog w) A (call (.type "enumerate") [v]) Q E s := by
  refine callType_new F.called_enumerate (by decide) (F.typeCall_enumerate_1 _) (F.newCall_enumerate_1 _) (fun obj => F.args_object_init_2 obj _) F.entry_enumerate_new
    (meets_enumerate_newB1 B) ⟨h1, ?_⟩
  have hz : (s.heap.push o).objs.size = s.heap.objs.size + 1 := Heap.size_push ..
  show _ ∧ _
  rw [hz]
  have he : IsEnum ((s.heap.push o).push { cls := .type "enumerate", data := .fields #[.none, .bool false, .ref s.heap.objs.size, rawInt 0, .none, .none] }) (s.heap.objs.size + 1) s.heap.objs.size 0 .none := by
    have := Heap.get?_push_size (s.heap.push o) (o := { cls := .type "enumerate", data := .fields #[.none, .bool false, .ref s.heap.objs.size, rawInt 0, .none, .none] }) rfl
    rw [hz] at this; exact this
  refine ⟨⟨_, he, rfl⟩, h _ he (Heap.get?_push_of_some _ (Heap.get?_push_size _ B.free)) (by rw [Heap.size_push, hz]) fun b o x => Heap.get?_push_of_some _ (Heap.get?_push_of_some _ x)⟩
def iEnumK (K : PySem.W.Frag) (ta : TA) : TI := fun σ H R => ta σ H fun vs H1 => ∃ (k : Bool) (a : Addr) (xs : List V), vs = [.ref a] ∧ SqK k K H1 a xs ∧ R (IteK k K a) H1
theorem pi_enumK {X : Cx} {e : Expr} {ta : TA} {p pos tpos : Pos} {elts : List Expr} {kk : Nat} (hg : Gl X "enumerate") (hm : X.mg "enumerate" = none) (ha : PA X [e] ta) (hs : starEach [e] X.env = [(false, eval e X.env)] := by rfl) :
    PI X (.Tuple elts kk tpos) (.Call (.Name "enumerate" p) [e] [] pos) (iEnumK X.K ta) := by
  refine ⟨fun pins s σ H R I h => ?_⟩
  refine Call_ (ld_blt I hg hm boot_enumerate (PyProof.Rows.callWith_type1 (thn (ha.run pos pins s σ H _ I h) fun us s1 ⟨vs, H1, I1, r1, q1⟩ => ?_) hs rfl))
  obtain ⟨k, a, xs, ex, hq, q⟩ := q1
  subst ex
  cases r1 with
  | cons r rr =>
    cases rr
    cases r
    obtain ⟨its, rv, p'⟩ := srcK I1 hq
    have la : a < s1.heap.objs.size := p'.lt
    refine enum_begins1 (beginsK k a its.toArray) p' fun h' he hit hsz hk => wpAny_pyIter_enum he ?_
    have I2 : Inv X pins σ H1 { s1 with heap := h' } := I1.kept (t' := s1.toks) hk
    refine ⟨s1.heap.objs.size + 1, [s1.heap.objs.size + 1, s1.heap.objs.size], _, _, H1, rfl, I2, turn_enumK (k := k) (a := a) (e := s1.heap.objs.size + 1) (it := s1.heap.objs.size) (Nat.succ_ne_self _) (Nat.ne_of_gt (Nat.lt_succ_of_lt la)) (Nat.ne_of_lt la), ⟨⟨.none, he⟩, IterK.new k hit⟩, fun b hb => ?_, q⟩
    have e' : b = s1.heap.objs.size + 1 ∨ b = s1.heap.objs.size := by simpa using hb
    have hle : s1.heap.objs.size ≤ b := by
      rcases e' with z | z
      · rw [z]; exact Nat.le_add_right _ _
      · rw [z]; exact Nat.le_refl _
    exact I1.fpOk hle (I1.hok.fresh hle)
end DV
namespace DV
open PySem PySem.Spec L2
section
variable {X : Cx} {W : WX} {M : MC} {Z H Z' H' : Hp} {env env' e : Ev} {σ σ' : SV} {a b : Addr}
theorem lendO_get {i j : Nat} (h : i ≠ j) : (lendO (some i) e)[j]? = e[j]? := by
  unfold lendO
  simp only
  split
  · rw [List.getElem?_set_ne h]
  · rw [List.getElem?_set_ne h]
  · rfl
def Sl.isDic : Sl → Bool
  | .dic _ _ => true
  | .dit _ _ => true
  | _ => false
theorem lendO_mut {i j : Nat} {s : Sl} {xs : List D} (h : (lendO (some i) e)[j]? = some s) (hm : s.mc? = some xs) : (j ≠ i ∨ s.isDic = true) ∧ e[j]? = some s := by
  by_cases hj : i = j
  · subst hj
    unfold lendO at h
    simp only at h
    split at h
    · rename_i ys q
      rw [List.getElem?_set_self (List.getElem?_eq_some_iff.mp q).1] at h
      cases h; cases hm
    · rename_i ys q
      rw [List.getElem?_set_self (List.getElem?_eq_some_iff.mp q).1] at h
      cases h; cases hm
    · rename_i h1 h2
      cases s with
      | own ys => exact absurd h (h1 ys)
      | pin ys => exact absurd h (h2 ys)
      | dic ks ys => exact ⟨.inr rfl, h⟩
      | dit ks ys => exact ⟨.inr rfl, h⟩
      | _ => cases hm
  · rw [lendO_get hj] at h
    exact ⟨.inl fun z => hj z.symm, h⟩
theorem lendO_dic {i j : Nat} {s : Sl} (hs : s.isDic = true) (h : e[j]? = some s) : (lendO (some i) e)[j]? = some s := by
  by_cases hj : i = j
  · subst hj
    cases s <;> first | (cases hs; done) | (unfold lendO; simp only [h])
  · rw [lendO_get hj]; exact h
theorem lendI_dic : ∀ (is : List Nat) {e : Ev} {j : Nat} {s : Sl}, s.isDic = true → e[j]? = some s → (lendI is e)[j]? = some s
  | [], _, _, _, _, h => h
  | i :: is, e, j, s, hs, h => lendI_dic is hs (lendO_dic hs h)
theorem lendI_mut : ∀ (is : List Nat) {e : Ev} {j : Nat} {s : Sl} {xs : List D}, (lendI is e)[j]? = some s → s.mc? = some xs → (j ∉ is ∨ s.isDic = true) ∧ e[j]? = some s
  | [], _, _, _, _, h, _ => ⟨.inl (fun z => by cases z), h⟩
  | i :: is, e, j, s, xs, h, hm => by
    obtain ⟨h1, h2⟩ := lendI_mut is h hm
    obtain ⟨h3, h4⟩ := lendO_mut h2 hm
    refine ⟨?_, h4⟩
    rcases h1 with h1 | h1
    · rcases h3 with h3 | h3
      · exact .inl fun z => (List.mem_cons.mp z).elim h3 h1
      · exact .inr h3
    · exact .inr h1
theorem lendI_out : ∀ (is : List Nat) {e : Ev} {j : Nat}, j ∉ is → (lendI is e)[j]? = e[j]?
  | [], _, _, _ => rfl
  | i :: is, e, j, h => by
    show (lendI is (lendO (some i) e))[j]? = e[j]?
    rw [lendI_out is fun z => h (List.mem_cons_of_mem _ z), lendO_get fun z => h (by rw [z]; exact List.mem_cons_self)]
theorem owned_more {is js : List Nat} (h : ∀ i ∈ is, i ∈ js) (o : Owned (lendI js e) σ a) : Owned (lendI is e) σ a := by
  obtain ⟨j, s, xs, h1, h2, h3⟩ := o
  obtain ⟨h4, h5⟩ := lendI_mut js h1 h2
  refine ⟨j, s, xs, ?_, h2, h3⟩
  rcases h4 with h4 | hs
  · rw [lendI_out is fun z => h4 (h j z)]
    exact h5
  · exact lendI_dic is hs h5
theorem Stands.more {is js : List Nat} {vs : List V} {k : Bool} (h : ∀ i ∈ is, i ∈ js) (st : Stands M.K Z H (lendI is e) σ a vs k) : SqK k M.K H a vs ∧ ∀ H', Kp Z H (lendI js e) σ H' → SqK k M.K H' a vs := by
  have kp : ∀ H', Kp Z H (lendI js e) σ H' → Kp Z H (lendI is e) σ H' := fun H' q b h1 h2 => q b h1 fun z => h2 (owned_more h z)
  cases k with
  | true =>
    have st : SqT M.K H a vs ∧ _ := st
    exact ⟨st.1, fun H' q => st.2 H' (kp H' q)⟩
  | false =>
    have st : SqL M.K H a vs ∧ _ := st
    exact ⟨st.1, fun H' q => st.2 H' (kp H' q)⟩
def zipD : List D → List D → List D := List.zipWith fun x y => .tup [x, y]
def YPairF (xs ys : Nat → Option V) : Nat → Hp → V → Hp → Prop := fun i H v H' => ∃ T x y, v = .ref T ∧ H T = none ∧ (∃ o : Obj, o.dict = none ∧ H' = upd H T (.frz o (.tup [x, y]))) ∧ xs i = some x ∧ ys i = some y
def enumD : Nat → List D → List D
  | _, [] => []
  | n, d :: ds => .tup [.int n, d] :: enumD (n + 1) ds
theorem enumD_length : ∀ (n : Nat) (ds : List D), (enumD n ds).length = ds.length
  | _, [] => rfl
  | n, d :: ds => by rw [enumD, List.length_cons, List.length_cons, enumD_length]
theorem enumD_get : ∀ (n i : Nat) (ds : List D), (enumD n ds)[i]? = (ds[i]?).map fun d => .tup [.int ((n + i : Nat) : Int), d]
  | _, _, [] => by simp [enumD]
  | n, 0, d :: ds => by simp [enumD]
  | n, i + 1, d :: ds => by
    have := enumD_get (n + 1) i ds
    simp only [enumD, List.getElem?_cons_succ]
    rw [this]
    have e : n + 1 + i = n + (i + 1) := by omega
    rw [e]
theorem itD_enum {k : Bool} {vs : List V} {xs : List D} (h1 : ∀ H', Kp Z H env σ H' → SqK k M.K H' a vs) (r1 : Rps M Z vs xs) : ItD M (IteK k M.K a) (enumD 0 xs) Z H env σ := by
  have len : (enumD 0 xs).length = vs.length := by rw [enumD_length, r1.length]
  refine ⟨fun H => SqK k M.K H a vs, YPairF (fun i => some (.int (i : Nat))) (fun i => vs[i]?), ⟨fun i H hi g1 => ?_, fun H g1 => ?_, fun i H x H' hi g1 ⟨T, x1, e1, e2, e3, e4⟩ => ?_⟩, fun H' k => h1 H' k, fun i Z' H' H'' x d hz hs hd ⟨T, x1, y1, e1, e2, e3, e4, e5⟩ => ?_⟩
  · rw [len] at hi
    exact ⟨vs, vs[i], g1, List.getElem?_eq_getElem _⟩
  · exact ⟨vs, g1, len.symm⟩
  · exact ⟨T, _, x1, e1, e2, e3, rfl, e4 vs g1⟩
  · obtain ⟨o, od, e3⟩ := e3
    subst e1 e3
    cases e4
    have g := Grow.frz (o := .frz o (.tup [.int (i : Nat), y1])) hs e2
    obtain ⟨d1, f1, f2⟩ := r1.getV e5
    have : d = .tup [.int ((i : Nat) : Int), d1] := by
      rw [enumD_get, f1, Nat.zero_add] at hd
      exact (Option.some.inj hd).symm
    subst this
    exact ⟨_, g, .tup (.inl ⟨o, upd_same, od⟩) (.cons (.int _) (.cons (f2.mono (hz.trans g.sub)) .nil))⟩
def iZip (t : SL) : SI := fun env => (t env).bind fun rs e => match rs with
  | [r1, r2] => match r1.walk e, r2.walk e with
    | some (t1, _), some (t2, _) => .ok ⟨zipD t1.items t2.items, t1.src ++ t2.src⟩ e
    | _, _ => .bad
  | _ => .bad
def iEnum (t : SL) : SI := fun env => (t env).bind fun rs e => match rs with
  | [r1] => match r1.walk e with
    | some (t1, _) => .ok ⟨enumD 0 t1.items, t1.src⟩ e
    | _ => .bad
  | _ => .bad
theorem di_enum {x : Expr} {t : SL} {elts : List Expr} {kk : Nat} {p pos tpos : Pos} (hm : X.mg "enumerate" = none) (ha : DA W X [x] t) (hg : Gl X "enumerate" := by rfl)
    (hs : starEach [x] X.env = [(false, eval x X.env)] := by rfl) : DI W X (.Tuple elts kk tpos) (.Call (.Name "enumerate" p) [x] [] pos) (iEnum t) := by
  refine weakI (pi_enumK hg hm ha hs) fun σ H R ⟨Z, env, rep, h⟩ => ⟨Z, env, rep, h.bind.mono fun rs e Z1 H1 x1 p vs rrs => ?_⟩
  match rs, vs, rrs, p with
  | [r1], [v1], ⟨rr1, _, _⟩, p =>
    simp only at p
    cases q1 : r1.walk e with
    | none => rw [q1] at p; exact p.elim
    | some t1 =>
      obtain ⟨t1, b1⟩ := t1
      rw [q1] at p
      obtain ⟨a, ws1, e1, e2, e3⟩ := walk_at rr1 x1.rep q1
      have s1 := Stands.more (M := mc X) (js := t1.src) (fun i hi => hi) e3
      exact ⟨b1, a, ws1, by rw [e1], s1.1, p.ok x1.rep _ (itD_enum (M := mc X) s1.2 e2)⟩
  | [], _, _, p => exact p.elim
  | _ :: _ :: _, _, _, p => exact p.elim
/-! ### built-ins -/
def gLen (ds : List D) : Option R := match ds with
  | [.str z] => if z.length ≤ LIM then some (.val (.int z.length)) else none
  | [d] => match seqOf d with
    | some xs => some (.val (.int xs.length))
    | none => none
  | _ => none
def rLenD (K : PySem.W.Frag) : List V → Hp → VK → Prop := fun xs H Q => (∃ p ys, xs = [.ref p] ∧ (SqL K H p ys ∨ SqT K H p ys) ∧ Q (.int ys.length) H) ∨ ∃ z, xs = [.str z] ∧ z.length ≤ sizeLine ∧ Q (.int z.length) H
theorem call_lenDD : CallR X (.builtin "len") (rLenD X.K) := call_len_seq.or call_len_str
theorem okLen : CallD M (rLenD M.K) gLen := by
  intro Z H xs ds res Q sb hn hg k
  unfold gLen at hg
  split at hg
  · obtain ⟨v, e1, e2⟩ := nows1 hn
    have e3 := e2.str
    subst e1 e3
    split at hg
    · rename_i hl
      cases hg
      exact .inr ⟨_, rfl, lim_line hl, k _ Z H (.refl sb) (.int _)⟩
    · cases hg
  · obtain ⟨v, e1, e2⟩ := nows1 hn
    subst e1
    split at hg
    · rename_i ys q
      cases hg
      obtain ⟨a, vs, f1, f2, f3⟩ := seq_of e2 sb q
      subst f1
      refine .inl ⟨a, vs, rfl, f2, ?_⟩
      rw [f3.length]
      exact k _ Z H (.refl sb) (.int _)
    · cases hg
  · cases hg
def gAbs (ds : List D) : Option R := match ds with
  | [.int i] => some (.val (.int (if i < 0 then -i else i)))
  | _ => none
theorem okAbs : CallD M (fun xs H Q => ∃ i, xs = [.int i] ∧ Q (.int (if i < 0 then -i else i)) H) gAbs := by
  intro Z H xs ds res Q sb hn hg k
  unfold gAbs at hg
  split at hg
  · cases hg
    obtain ⟨v, e1, e2⟩ := nows1 hn
    have e3 := e2.int
    subst e1 e3
    exact ⟨_, rfl, k _ Z H (.refl sb) (.int _)⟩
  · cases hg
def gMin2 (ds : List D) : Option R := match ds with
  | [.int i, .int j] => some (.val (.int (if j < i then j else i)))
  | _ => none
def gMax2 (ds : List D) : Option R := match ds with
  | [.int i, .int j] => some (.val (.int (if j > i then j else i)))
  | _ => none
def gInt1 (ds : List D) : Option R := match ds with
  | [.int i] => some (.val (.int i))
  | [.bl b] => some (.val (.int (if b then 1 else 0)))
  | _ => none
theorem okInt1 : CallD M (fun xs H Q => (∃ i, xs = [.int i] ∧ Q (.int i) H) ∨ ∃ k, xs = [.bl k] ∧ Q (.int (if k then 1 else 0)) H) gInt1 := by
  intro Z H xs ds res Q sb hn hg k
  unfold gInt1 at hg
  split at hg
  · cases hg
    obtain ⟨v, e1, e2⟩ := nows1 hn
    have e3 := e2.int
    subst e1 e3
    exact .inl ⟨_, rfl, k _ Z H (.refl sb) (.int _)⟩
  · cases hg
    obtain ⟨v, e1, e2⟩ := nows1 hn
    have e3 := e2.bl
    subst e1 e3
    exact .inr ⟨_, rfl, k _ Z H (.refl sb) (.int _)⟩
  · cases hg
def gList (ds : List D) : Option R := match ds with
  | [d] => match seqOf d with
    | some xs => some (.new xs)
    | none => none
  | _ => none
def gTuple (ds : List D) : Option R := match ds with
  | [.tup xs] => some (.val (.tup xs))
  | [.lst xs] => some (.val (.tup xs))
  | [.scr xs] => some (.val (.tup xs))
  | _ => none
def rTupF (K : PySem.W.Frag) : List V → Hp → VK → Prop := fun xs H Q => ∃ p ys, xs = [.ref p] ∧ ((SqL K H p ys ∧ ∀ (l : Addr) (o : Obj), H l = none → o.dict = none → Q (.ref l) (upd H l (.frz o (.tup ys)))) ∨ (SqT K H p ys ∧ Q (.ref p) H))
theorem call_tuple_ofF {X : Cx} : CallR X (.type "tuple") (rTupF X.K) := by
  intro pins s σ H xs us Q I r h
  obtain ⟨p, ys, rfl, h⟩ := h
  obtain ⟨u, rfl, rx⟩ := vals1 r
  cases rx
  rcases h with ⟨hq, q⟩ | ⟨hq, q⟩
  · obtain ⟨its, r', pl, hz⟩ := I.list hq
    have hlen := r'.length
    refine call_tuple_list pl.isList (fun h' kp => ?_) (by simp only [List.size_toArray] <;> omega)
    have I1 : Inv X pins σ H { s with heap := h' } := I.kept (t' := s.toks) kp
    have I2 : Inv X pins σ (upd H h'.objs.size (.frz { cls := .type "tuple", data := .seq its.toArray } (.tup ys))) { s with heap := h'.push { cls := .type "tuple", data := .seq its.toArray } } :=
      I1.laid (t' := s.toks) (fun b o e => Heap.get?_push_of_some _ e) (Nat.le_refl _) (show ObjOk X.prog X.w _ _ _ (.frz _ (.tup ys)) from ⟨Heap.get?_push_size _ rfl, hz, its, r', PyProof.Rows.IsTup.new _ _⟩)
    exact ⟨.ref h'.objs.size, _, I2, rfl, q _ _ (I1.hok.fresh (Nat.le_refl _)) rfl⟩
  · obtain ⟨its, r', pl, hz⟩ := I.tuple hq
    exact call_tuple_same pl ⟨.ref p, H, I, rfl, q⟩
theorem okTuple : CallD M (rTupF M.K) gTuple := by
  intro Z H xs ds res Q sb hn hg k
  unfold gTuple at hg
  split at hg
  · cases hg
    obtain ⟨v, e1, e2⟩ := nows1 hn
    subst e1
    obtain ⟨a, vs, f1, f2, f2', f3⟩ := e2.tup sb
    subst f1
    exact ⟨a, vs, rfl, .inr ⟨f2, k _ Z H (.refl sb) (.tup f2' f3)⟩⟩
  · cases hg
    obtain ⟨v, e1, e2⟩ := nows1 hn
    subst e1
    obtain ⟨a, vs, f1, f2, f3⟩ := e2.lst sb
    subst f1
    refine ⟨a, vs, rfl, .inl ⟨.inl (.inl f2), fun l o hl hd => ?_⟩⟩
    have g := Grow.frz (o := .frz o (.tup vs)) sb hl
    exact k _ _ _ g (.tup (.inl ⟨o, upd_same, hd⟩) (f3.mono g.sub))
  · cases hg
    obtain ⟨v, e1, e2⟩ := nows1 hn
    subst e1
    obtain ⟨a, vs, f1, f2, f3⟩ := e2.scr sb
    subst f1
    refine ⟨a, vs, rfl, .inl ⟨f2, fun l o hl hd => ?_⟩⟩
    have g := Grow.frz (o := .frz o (.tup vs)) sb hl
    exact k _ _ _ g (.tup (.inl ⟨o, upd_same, hd⟩) (f3.mono g.sub))
  · cases hg
/-- lists of ints, of truths -/
def D.int? : D → Option Int
  | .int i => some i
  | _ => none
def allOf {α : Type} (f : D → Option α) : List D → Option (List α)
  | [] => some []
  | d :: ds => match f d, allOf f ds with
    | some x, some xs => some (x :: xs)
    | _, _ => none
/-- list(range(n)), list(range(a, b)) -/
def vListR1 (s : SE) : SE := fun env => (s env).bind fun r e => match r.read e with
  | some (.int n) => if 0 ≤ n ∧ n ≤ 1000000 then .ok (.new (rngD 0 n.toNat)) e else .bad
  | _ => .bad
/-- isinstance(x, a built-in class) -/
def isiD (T : String) : D → Option Bool
  | .non => some (T == "NoneType")
  | .bl _ => some (T == "bool" || T == "int")
  | .int _ => some (T == "int")
  | .str _ => some (T == "str")
  | .tup _ => some (T == "tuple")
  | .lst _ => some (T == "list")
  | .scr _ => some (T == "list")
  | .obj _ _ _ => none
  | .ref _ => none
  | .exc _ _ _ => none
def tyName : D → String
  | .non => "NoneType"
  | .bl _ => "bool"
  | .int _ => "int"
  | .str _ => "str"
  | .tup _ => "tuple"
  | .lst _ => "list"
  | .scr _ => "list"
  | .obj _ _ _ => ""
  | .ref _ => ""
  | .exc _ _ _ => ""
theorem Now.tyX {v : V} {d : D} (h : Now M Z H v d) (s : Sub Z H) (no : ∀ c ks ds, d ≠ .obj c ks ds) (nr : ∀ n, d ≠ .ref n ∧ ∀ c ks ds, d ≠ .exc c ks ds) (nt : ∀ xs, d = .tup xs → ∀ a vs, v = .ref a → SqT M.K Z a vs → True) : TyX M.K H v (.type (tyName d)) := by
  rcases h with h | ⟨a, vs, xs, e1, e2, e3, e4⟩
  · cases h with
    | non => exact .base .non
    | bl b => exact .base (.bl b)
    | int b => exact .base (.int b)
    | str b => exact .base (.str b)
    | tup h r =>
      rcases h with ⟨o, h, _⟩ | ⟨o, its, n, hk, hc, _⟩
      · exact .fTuple (s.th _ _ h rfl)
      · exact .kTuple hk hc
    | lst h r => exact .base (.lst (s.th _ _ h rfl))
    | scr h r =>
      rcases h with (h | ⟨o, h⟩) | ⟨o, its, n, hk, hc, _⟩
      · exact .base (.lst (s.th _ _ h rfl))
      · exact .base (.frz (s.th _ _ h rfl))
      · exact .kList hk hc
    | obj h m l r => exact absurd rfl (no _ _ _)
    | ref h => exact absurd rfl (nr _).1
    | exc h m q l r => exact absurd rfl ((nr 0).2 _ _ _)
  · subst e1 e2
    exact .base (.lst e3)
def vIsi (T : String) (s : SE) : SE := fun env => (s env).bind fun r e => match r.read e with
  | some d => match isiD T d with
    | some b => .ok (.val (.bl b)) e
    | none => .bad
  | none => .bad
theorem de_isi {T : String} {tn : Str} {x : Expr} {s : SE} {p p2 pos : Pos} (hm : X.mg "isinstance" = none) (hm2 : X.mg tn = none) (hv : bootBuiltins tn = some (.type T)) (he : DE W X x s)
    (kit : ∀ d b, isiD T d = some b → kitB (tyName d) T = some b)
    (hg : Gl X "isinstance" := by rfl) (hg2 : Gl X tn := by rfl) (hn : tn ≠ "__name__" := by decide) (hd : (tn == ("__debug__" : Str)) = false := by decide) (hb : bootBuiltins "isinstance" = some (.builtin "isinstance") := by decide +kernel)
    (he1 : starEach [x, .Name tn p2] X.env = (false, eval x X.env) :: starEach [.Name tn p2] X.env := by rfl) (he2 : starEach [.Name tn p2] X.env = (false, eval (.Name tn p2) X.env) :: starEach [] X.env := by rfl)
    (hpl : (backTo pos (starEach [.Name tn p2] X.env)).any (·.1) = false := by rfl) : DE W X (.Call (.Name "isinstance" p) [x, .Name tn p2] [] pos) (vIsi T s) := by
  refine weakE (pe_callB call_isi hg hm hb (pa_cons he (pa_cons (pe_bltn (v := V.ty T) (u := .type T) hg2 hm2 hv rfl hn hd) pa_nil he2) he1) (by decide) (by decide) he1 hpl) fun σ H Q ⟨Z, env, rep, h⟩ => ⟨Z, env, rep, h.bind.mono fun r e Z1 H1 x1 p v rr => ?_⟩
  split at p
  · rename_i d q
    split at p
    · rename_i b q2
      have no : ∀ c ks ds, d ≠ .obj c ks ds := fun c ks ds z => by subst z; cases q2
      have nr : ∀ n, d ≠ .ref n ∧ ∀ c ks ds, d ≠ .exc c ks ds := fun n => ⟨fun z => (by subst z; cases q2), fun c ks ds z => (by subst z; cases q2)⟩
      exact ⟨v, .ty T, .type (tyName d), .type T, b, rfl, .ty T, (rr.now x1.rep q).tyX x1.rep.sub no nr (fun _ _ _ _ _ _ => trivial), kit_ty (kit d b q2), p.ok x1.rep _ (.bl b)⟩
    · exact p.elim
  · exact p.elim
theorem kit_tuple : ∀ d b, isiD "tuple" d = some b → kitB (tyName d) "tuple" = some b := fun d b h => by
  cases d <;> cases h <;> (simp only [tyName]; decide +kernel)
theorem kit_list : ∀ d b, isiD "list" d = some b → kitB (tyName d) "list" = some b := fun d b h => by
  cases d <;> cases h <;> (simp only [tyName]; decide +kernel)
end
end DV
namespace DV
open PySem PySem.Spec L2
/-! ### a def that keeps the promise of its meaning -/
structure FO (P : Program) (w : World) (K : PySem.W.Frag) (mg : Str → Option Value) (base : Heap) (k : Nat) (x : Str) (ps : List Str) (F : FSem) : Prop where
  ex : ∃ f fd, mg x = some (.ref f) ∧ PySem.W.keepIn K (.ref f) = true ∧ Binds K fd ps [] ∧ FnOk P w K mg base (L2N.CX P w) k f fd ps (spF ⟨K, mg, P, w⟩ ps.length F.run)
section
variable {X : Cx} {W : WX} {k k' : Nat} {ps : List Str} {F : FSem} {x : Str} {p pos : Pos} {e : Expr} {es : List Expr} {t : SL}
theorem de_callF (G : FO X.prog X.w X.K X.mg X.base k x ps F) (hr : Room k X.A) (tk : L2N.Takes X W) (ha : DA W X (e :: es) t) (hn : F.modes.length = ps.length := by rfl)
    (hg : Gl X x := by rfl) (hdb : (x == ("__debug__" : Str)) = false := by decide) (he : starEach (e :: es) X.env = (false, eval e X.env) :: starEach es X.env := by rfl) (hpl : (backTo pos (starEach es X.env)).any (·.1) = false := by rfl) :
    DE W X (.Call (.Name x p) (e :: es) [] pos) (vCall F t) := by
  obtain ⟨f, fd, hm, hk, hb, ok⟩ := G.ex
  exact de_call ok hr hm hk hb tk ha hn hg hdb he hpl
end
section
variable {P : Program} {w : World} {K : PySem.W.Frag} {mg : Str → Option Value} {base : Heap}
theorem fo_mk {x : Str} {qual : Str} {st : Stmt} {f : Addr} {fd : FuncData} {N ps : List Str} {k n m : Nat} {ms : List Md} {b : SS} (F : Fun K x qual st f fd) (S : FnScope N ps (defScope st)) (hm : mg x = some (.ref f)) (hb : Binds K fd ps []) (hn : ps.length = n) (hN : N.length = m)
    (hbody : ∀ (cdv : Value) (A : Around) (outer : List Env) (s : Shared) (H : Hp) (E : XK), Room k (A.deeper (PyProof.Rows.envOfC qual (defScope st) s.heap.objs.size f cdv)) →
      DSs (fun c d _ H => E c d H) (cxOf (L2N.CX P w) P w K mg base N qual (defScope st) f cdv A outer s H E) (defBody st) b) : FO P w K mg base (k + 1) x ps ⟨ms, bodyRun m b⟩ := by
  subst hn hN
  exact ⟨f, fd, hm, F.kp, hb, fnD F S rfl hbody⟩
end
section
variable {X : Cx} {W : WX} {M : MC}
def gAddI : D → D → Option R := gInt fun i j => some (.int (i + j))
def sBad : SS := fun _ => .bad
end
end DV
namespace DV
open PySem PySem.Spec L2
section
variable {X : Cx} {CX : CXT} {k : Nat} {f C : Addr} {fd : FuncData} {ps : List Str} {sp : Sp} {dvs : List V} {ds : List Value} {E : L2.St → XK} {x m : Str} {p pos apos : Pos} {e o : Expr} {es : List Expr} {ta : TE} {t : TA}
end
/-! ### an instance that never changes once it is made -/
/-- the promise of __init__: run tells the instance -/
def spNew (M : MC) (C : Addr) (n : Nat) (run : Ev → Out R) : Sp := fun vs H Q E => ∃ (a dx : Addr) (ws : List V) (H0 : Hp), vs = .ref a :: ws ∧ ws.length = n ∧ H = upd (upd H0 dx (.own a)) a (.ins C dx []) ∧ H0 a = none ∧ H0 dx = none ∧ dx ≠ a ∧
  tE M (fun c d _ H => E c d H) run (ws.map some) H0 fun v H' => v = .ref a → Q .non H'
structure NewOk (P : Program) (w : World) (K : PySem.W.Frag) (mg : Str → Option Value) (base : Heap) (k : Nat) (x : Str) (ps : List Str) (F : FSem) : Prop where
  ex : ∃ C f fd, mg x = some (.ref C) ∧ Mk K C f ∧ Binds K fd ps [] ∧ FnOk P w K mg base (L2N.CX P w) k f fd ps (spNew ⟨K, mg, P, w⟩ C F.modes.length F.run)
section
variable {X : Cx} {W : WX} {k n : Nat} {ps : List Str} {F : FSem} {x : Str} {p pos : Pos} {e : Expr} {es : List Expr} {t : SL}
end
theorem len2 {α : Type} : ∀ {l : List α}, l.length = 2 → ∃ a b, l = [a, b]
  | [a, b], _ => ⟨a, b, rfl⟩
  | [], h => by cases h
  | [_], h => by cases h
  | _ :: _ :: _ :: _, h => by simp at h
theorem Rep.beside {M : MC} {Z H : Hp} {env : Ev} {σ : SV} {p : Addr} {o : HO} (r : Rep M Z H env σ) (h2 : Z p = none) (h3 : ¬ Listy env σ p) : Rep M Z (upd H p o) env σ := by
  refine ⟨r.len, ⟨fun b u e t => ?_, fun b e => ?_⟩, r.val, fun i s xs f1 f2 => ?_, r.apart, fun i S h => (r.wld i S h).mono (Same.refl _) (fun _ _ h => h) (fun b n e => upd_ne fun z => by rw [z, h2] at e; cases e), r.wone⟩
  · have : b ≠ p := fun z => by rw [z, h2] at e; cases e
    rw [upd_ne this]; exact r.sub.th _ _ e t
  · have : b ≠ p := fun z => e (by rw [z]; exact h2)
    rw [upd_ne this]; exact r.sub.al _ e
  · obtain ⟨b, vs, e1, e2, e3, e4⟩ := r.lst i s xs f1 f2
    have : b ≠ p := fun z => h3 ⟨i, s, xs, f1, f2, by rw [e1, z]⟩
    exact ⟨b, vs, e1, by rw [upd_ne this]; exact e2, e3, e4⟩
/-! ### Net -/
section
variable {P : Program} {w : World} {K : PySem.W.Frag} {mg : Str → Option Value} {base : Heap}
end
end DV
namespace DV
open PySem PySem.Spec L2
/-! ### what the top has written -/
def HasFn (K : PySem.W.Frag) (mg : Str → Option Value) (x qual : Str) (st : Stmt) : Prop := ∃ f fd, mg x = some (.ref f) ∧ Fun K x qual st f fd
structure HasNet (K : PySem.W.Frag) (mg : Str → Option Value) (st : Stmt) : Prop where
  ex : ∃ C f fd, mg "Net" = some (.ref C) ∧ Mk K C f ∧ Cls K C ∧ NoAttr K C "many" ∧ NoAttr K C "stores" ∧ Fun K "__init__" "Net.__init__" st f fd
section
variable {K : PySem.W.Frag} {mg : Str → Option Value} {h : Heap} {st : Stmt} {x qual : Str} {f C : Addr} {oc kV doc pm cdv ct : Value} {od an : Option Addr} {osl : Array (Option Value)}
theorem has_fn (X : K.In h) (G : h.Ns mainGlobals mg) (a : PySem.W.nsIn K mainGlobals x = some (some (.ref f))) (l : K.lookup f = some ⟨oc, od, .func (PySem.W.fnOf x qual (defArgs st) (defBody st) (defScope st) .none kV doc pm an cdv ct), osl⟩)
    (c : PySem.W.codeIn K cdv qual = true) (k : PySem.W.keepIn K (.ref f) = true) : HasFn K mg x qual st := ⟨f, _, PySem.W.mg_of X G a, fun_mk l c k⟩
end
/-! ### the law's promise -/
def spL (K : PySem.W.Frag) : Sp := fun vs H Q _ => ∃ (a : Addr) (ns : List Int), vs = [.ref a] ∧ ns.length ≤ 63 ∧ SqL K H a (ns.map V.int) ∧ ∀ H', Q (.bl true) H'
/-- every script is answered with True -/
def Yes (F : FSem) : Prop := ∀ ns : List Int, ns.length ≤ 63 → ∃ e, F.run [.val (.scr (ns.map .int))] = .ok (.val (.bl true)) e
/-- all that stands is frozen, nothing marked -/
def zAll (H : Hp) : Hp := fun a => match H a with
  | some (.own _) => none
  | o => o
theorem zAll_eq {H : Hp} {a : Addr} {o : HO} (h : zAll H a = some o) : H a = some o ∧ tagO o = false := by
  unfold zAll at h
  split at h
  · cases h
  · rename_i q
    refine ⟨h, ?_⟩
    cases o with
    | own x => exact absurd h (q x)
    | _ => rfl
theorem zAll_of {H : Hp} {a : Addr} {o : HO} (h : H a = some o) (t : tagO o = false) : zAll H a = some o := by
  unfold zAll
  rw [h]
  cases o with
  | own x => cases t
  | _ => rfl
theorem zAll_sub {H : Hp} : Sub (zAll H) H := ⟨fun a u e _ => (zAll_eq e).1, fun a e => by
  cases q : zAll H a with
  | none => exact absurd q e
  | some o => rw [(zAll_eq q).1]; simp⟩
theorem law_ok {P : Program} {w : World} {K : PySem.W.Frag} {mg : Str → Option Value} {base : Heap} {k : Nat} {f : Addr} {fd : FuncData} {x : Str} {F : FSem} (ok : FnOk P w K mg base (L2N.CX P w) k f fd [x] (spF ⟨K, mg, P, w⟩ 1 F.run)) (y : Yes F) :
    FnOk P w K mg base (L2N.CX P w) k f fd [x] (spL K) := ok.imp fun vs H Q E ⟨a, ns, e, hl, hs, q⟩ => by
  subst e
  obtain ⟨e2, hy⟩ := y ns hl
  refine ⟨rfl, zAll H, [.val (.scr (ns.map .int))], ⟨rfl, zAll_sub, fun i d h => ?_, fun i s xs h1 h2 => ?_, fun i j si sj xi xj a h1 h2 h3 => ?_, fun i S h => ?_, fun i j S T h => ?_⟩, ?_⟩
  · cases i with
    | zero => cases h; exact ⟨_, rfl, .scr (seqL (fun _ _ h t => zAll_of h t) hs) (Rps.ints ns)⟩
    | succ i => cases h
  · cases i with
    | zero => cases h1; cases h2
    | succ i => cases h1
  · cases i with
    | zero => cases h1; cases h3
    | succ i => cases h1
  · cases i with
    | zero => cases h
    | succ i => cases h
  · cases i with
    | zero => cases h
    | succ i => cases h
  · rw [hy]
    intro Z1 H1 a1 v rr
    have rr : Rp ⟨K, mg, P, w⟩ Z1 v (.bl true) := rr
    cases rr
    exact q H1
theorem fo_law {P : Program} {w : World} {K : PySem.W.Frag} {mg : Str → Option Value} {k : Nat} {fa : Addr} {x : Str} {F : FSem} {st : Stmt} (H : HasFn K mg "law" "law" st) (hfa : mg "law" = some (.ref fa))
    (hx : ∀ (f : Addr) (fd : FuncData), Fun K "law" "law" st f fd → ∀ (s : Shared) (u : Value), BindsTo s fd ⟨[u], []⟩ [(x, u)])
    (ok : ∀ base : Heap, ∀ (f : Addr) (fd : FuncData), mg "law" = some (.ref f) → Fun K "law" "law" st f fd → FnOk P w K mg base (L2N.CX P w) k f fd [x] (spF ⟨K, mg, P, w⟩ 1 F.run)) (y : Yes F) :
    ∃ fd : FuncData, (∀ (s : Shared) (u : Value), BindsTo s fd ⟨[u], []⟩ [(x, u)]) ∧ ∀ base : Heap, K.In base → base.Ns mainGlobals mg → FnOk P w K mg base (L2N.CX P w) k fa fd [x] (spL K) := by
  obtain ⟨f, fd, e, F⟩ := H
  rw [hfa] at e
  cases e
  exact ⟨fd, hx _ _ F, fun base _ _ => law_ok (ok base _ _ hfa F) y⟩
theorem fn_mk {P : Program} {w : World} {K : PySem.W.Frag} {mg : Str → Option Value} {base : Heap} {x : Str} {qual : Str} {st : Stmt} {f : Addr} {fd : FuncData} {N ps : List Str} {k n m : Nat} {b : SS} (F : Fun K x qual st f fd) (S : FnScope N ps (defScope st)) (hn : ps.length = n) (hN : N.length = m)
    (hbody : ∀ (cdv : Value) (A : Around) (outer : List Env) (s : Shared) (H : Hp) (E : XK), Room k (A.deeper (PyProof.Rows.envOfC qual (defScope st) s.heap.objs.size f cdv)) →
      DSs (fun c d _ H => E c d H) (cxOf (L2N.CX P w) P w K mg base N qual (defScope st) f cdv A outer s H E) (defBody st) b) : FnOk P w K mg base (L2N.CX P w) (k + 1) f fd ps (spF ⟨K, mg, P, w⟩ n (bodyRun m b)) := by
  subst hn hN
  exact fnD F S rfl hbody
theorem cx_no {P : Program} {w : World} {H : Hp} {s : Shared} {e : Value} {s' : Shared} : L2N.CX P w [] H s (fun _ _ _ => False) e s' → False := fun ⟨a, B, H', cls, d, _, _, _, _, _, _, _, h⟩ => h
end DV
namespace DV
open PySem PySem.Spec L2
/-! ### running: each form by named continuations, so that simp steps from the left and never under a binder -/
section
variable {α β : Type}
@[simp] theorem Out.bind_ok {a : α} {e : Ev} {k : α → Ev → Out β} : (Out.ok a e).bind k = k a e := Eq.trans rfl rfl
def Out.seq (o : Out Fl) (t : SS) : Out Fl := match o with
  | .ok .nx e => t e
  | o => o
@[simp] theorem sSeq_eq {s t : SS} {e : Ev} : sSeq s t e = (s e).seq t := by
  unfold sSeq Out.seq
  cases s e with
  | ok f e => cases f <;> rfl
  | _ => rfl
@[simp] theorem seq_nx {e : Ev} {t : SS} : (Out.ok Fl.nx e).seq t = t e := Eq.trans rfl rfl
@[simp] theorem seq_rt {e : Ev} {r : R} {t : SS} : (Out.ok (Fl.rt r) e).seq t = .ok (.rt r) e := Eq.trans rfl rfl
@[simp] theorem sNil_eq {e : Ev} : sNil e = .ok .nx e := Eq.trans rfl rfl
@[simp] theorem sBrk_eq {e : Ev} : sBrk e = .ok .bk e := Eq.trans rfl rfl
@[simp] theorem sCnt_eq {e : Ev} : sCnt e = .ok .ct e := Eq.trans rfl rfl
@[simp] theorem bYes_eq {e : Ev} : bYes e = .ok true e := Eq.trans rfl rfl
/-- the two ways -/
def way (s t : Ev → Out α) (b : Bool) (e : Ev) : Out α := if b then s e else t e
@[simp] theorem way_t {s t : Ev → Out α} {e : Ev} : way s t true e = s e := Eq.trans rfl rfl
@[simp] theorem way_f {s t : Ev → Out α} {e : Ev} : way s t false e = t e := Eq.trans rfl rfl
def kC (d : α) (e : Ev) : Out α := .ok d e
@[simp] theorem kC_eq {d : α} {e : Ev} : kC d e = .ok d e := Eq.trans rfl rfl
@[simp] theorem sIf_eq {c : SB} {s t : SS} {e : Ev} : sIf c s t e = (c e).bind (way s t) := Eq.trans rfl rfl
@[simp] theorem vIf_eq {c : SB} {s t : SE} {e : Ev} : vIf c s t e = (c e).bind (way s t) := Eq.trans rfl rfl
@[simp] theorem vAnd_eq {s t : SE} {e : Ev} : vAnd s t e = (bRead (s e)).bind (way t (kC (.val (.bl false)))) := Eq.trans rfl rfl
@[simp] theorem vOr_eq {s t : SE} {e : Ev} : vOr s t e = (bRead (s e)).bind (way (kC (.val (.bl true))) t) := Eq.trans rfl rfl
@[simp] theorem bAnd_eq {s t : SB} {e : Ev} : bAnd s t e = (s e).bind (way t (kC false)) := Eq.trans rfl rfl
@[simp] theorem bOr_eq {s t : SB} {e : Ev} : bOr s t e = (s e).bind (way (kC true) t) := Eq.trans rfl rfl
def kNot (b : Bool) (e : Ev) : Out R := .ok (.val (.bl (!b))) e
@[simp] theorem kNot_eq {b : Bool} {e : Ev} : kNot b e = .ok (.val (.bl (!b))) e := Eq.trans rfl rfl
@[simp] theorem vNot_eq {s : SE} {e : Ev} : vNot s e = (bRead (s e)).bind kNot := Eq.trans rfl rfl
def kBNot (b : Bool) (e : Ev) : Out Bool := .ok (!b) e
@[simp] theorem kBNot_eq {b : Bool} {e : Ev} : kBNot b e = .ok (!b) e := Eq.trans rfl rfl
@[simp] theorem bNot_eq {s : SB} {e : Ev} : bNot s e = (s e).bind kBNot := Eq.trans rfl rfl
/-- an option comes to an end, goes on -/
def fin (o : Option α) (e : Ev) : Out α := match o with
  | some b => .ok b e
  | none => .bad
@[simp] theorem fin_some {b : α} {e : Ev} : fin (some b) e = .ok b e := Eq.trans rfl rfl
def opt (o : Option β) (k : β → Out α) : Out α := match o with
  | some b => k b
  | none => .bad
@[simp] theorem opt_some {b : β} {k : β → Out α} : opt (some b) k = k b := Eq.trans rfl rfl
def dBl (d : D) : Option Bool := match d with
  | .bl b => some b
  | _ => none
@[simp] theorem dBl_eq {b : Bool} : dBl (.bl b) = some b := Eq.trans rfl rfl
def dInt (d : D) : Option Int := match d with
  | .int b => some b
  | _ => none
@[simp] theorem dInt_eq {b : Int} : dInt (.int b) = some b := Eq.trans rfl rfl
def kTruth2 (e : Ev) (d : D) : Out Bool := fin (dBl d) e
@[simp] theorem kTruth2_eq {d : D} {e : Ev} : kTruth2 e d = fin (dBl d) e := Eq.trans rfl rfl
def kTruth (r : R) (e : Ev) : Out Bool := opt (r.read e) (kTruth2 e)
@[simp] theorem kTruth_eq {r : R} {e : Ev} : kTruth r e = opt (r.read e) (kTruth2 e) := Eq.trans rfl rfl
@[simp] theorem bRead_eq {o : Out R} : bRead o = o.bind kTruth := by
  unfold bRead
  congr
  funext r e
  unfold kTruth
  cases r.read e with
  | none => rfl
  | some d => cases d <;> rfl
@[simp] theorem bVal_eq {s : SE} {e : Ev} : bVal s e = (s e).bind kTruth := bRead_eq
@[simp] theorem vC_eq {d : D} {e : Ev} : vC d e = .ok (.val d) e := Eq.trans rfl rfl
def varS (i : Nat) (s : Option Sl) (e : Ev) : Out R := match s with
  | some (.val d) => .ok (.val d) e
  | some .hole => .bad
  | some (.wld _) => .bad
  | some _ => .ok (.at i) e
  | none => .bad
@[simp] theorem varS_val {i : Nat} {d : D} {e : Ev} : varS i (some (.val d)) e = .ok (.val d) e := Eq.trans rfl rfl
@[simp] theorem varS_own {i : Nat} {d : List D} {e : Ev} : varS i (some (.own d)) e = .ok (.at i) e := Eq.trans rfl rfl
@[simp] theorem varS_pin {i : Nat} {d : List D} {e : Ev} : varS i (some (.pin d)) e = .ok (.at i) e := Eq.trans rfl rfl
@[simp] theorem varS_lent {i : Nat} {d : List D} {e : Ev} : varS i (some (.lent d)) e = .ok (.at i) e := Eq.trans rfl rfl
@[simp] theorem vVar_eq {i : Nat} {e : Ev} : vVar i e = varS i e[i]? e := Eq.trans rfl rfl
def kBin3 (g : D → D → Option R) (d : D) (e : Ev) (d' : D) : Out R := fin (g d d') e
@[simp] theorem kBin3_eq {g : D → D → Option R} {d d' : D} {e : Ev} : kBin3 g d e d' = fin (g d d') e := Eq.trans rfl rfl
def kBin2' (g : D → D → Option R) (o : Option D) (e : Ev) (d : D) : Out R := opt o (kBin3 g d e)
@[simp] theorem kBin2'_eq {g : D → D → Option R} {o : Option D} {d : D} {e : Ev} : kBin2' g o e d = opt o (kBin3 g d e) := Eq.trans rfl rfl
def kBin2 (g : D → D → Option R) (r1 : R) (r2 : R) (e : Ev) : Out R := opt (r1.read e) (kBin2' g (r2.read e) e)
@[simp] theorem kBin2_eq {g : D → D → Option R} {r1 r2 : R} {e : Ev} : kBin2 g r1 r2 e = opt (r1.read e) (kBin2' g (r2.read e) e) := Eq.trans rfl rfl
def kBin1 (g : D → D → Option R) (s2 : SE) (r1 : R) (e : Ev) : Out R := (s2 e).bind (kBin2 g r1)
@[simp] theorem kBin1_eq {g : D → D → Option R} {r1 : R} {s2 : SE} {e : Ev} : kBin1 g s2 r1 e = (s2 e).bind (kBin2 g r1) := Eq.trans rfl rfl
@[simp] theorem vBin_eq {g : D → D → Option R} {s1 s2 : SE} {e : Ev} : vBin g s1 s2 e = (s1 e).bind (kBin1 g s2) := by
  unfold vBin
  congr
  funext r1 e1
  unfold kBin1
  congr
  funext r2 e2
  unfold kBin2
  cases h1 : r1.read e2 <;> cases h2 : r2.read e2
  · rfl
  · rfl
  · rfl
  · rename_i a b
    show _ = fin (g a b) e2
    simp only
    cases g a b <;> rfl
def kUn (g : D → Option R) (r : R) (e : Ev) : Out R := opt (r.read e) fun d => fin (g d) e
@[simp] theorem kUn_eq {g : D → Option R} {r : R} {e : Ev} : kUn g r e = opt (r.read e) fun d => fin (g d) e := Eq.trans rfl rfl
@[simp] theorem vUn_eq {g : D → Option R} {s1 : SE} {e : Ev} : vUn g s1 e = (s1 e).bind (kUn g) := by
  unfold vUn
  congr
  funext r1 e1
  unfold kUn
  cases r1.read e1 with
  | none => rfl
  | some d => simp only [opt]; cases g d <;> rfl
def kCons2 (r : R) (rs : List R) (e : Ev) : Out (List R) := .ok (r :: rs) e
@[simp] theorem kCons2_eq {r : R} {rs : List R} {e : Ev} : kCons2 r rs e = .ok (r :: rs) e := Eq.trans rfl rfl
def kCons (t : SL) (r : R) (e : Ev) : Out (List R) := (t e).bind (kCons2 r)
@[simp] theorem kCons_eq {t : SL} {r : R} {e : Ev} : kCons t r e = (t e).bind (kCons2 r) := Eq.trans rfl rfl
@[simp] theorem vCons_eq {s : SE} {t : SL} {e : Ev} : vCons s t e = (s e).bind (kCons t) := Eq.trans rfl rfl
@[simp] theorem vNil_eq {e : Ev} : vNil e = .ok [] e := Eq.trans rfl rfl
def kCB2 (g : List D → Option R) (e : Ev) (ds : List D) : Out R := fin (g ds) e
@[simp] theorem kCB2_eq {g : List D → Option R} {ds : List D} {e : Ev} : kCB2 g e ds = fin (g ds) e := Eq.trans rfl rfl
def kCB (g : List D → Option R) (rs : List R) (e : Ev) : Out R := opt (reads rs e) (kCB2 g e)
@[simp] theorem kCB_eq {g : List D → Option R} {rs : List R} {e : Ev} : kCB g rs e = opt (reads rs e) (kCB2 g e) := Eq.trans rfl rfl
@[simp] theorem vCB_eq {g : List D → Option R} {t : SL} {e : Ev} : vCB g t e = (t e).bind (kCB g) := by
  unfold vCB
  congr
  funext rs e
  unfold kCB
  cases reads rs e with
  | none => rfl
  | some ds => simp only [opt, kCB2]; cases g ds <;> rfl
def mkD (tup : Bool) (p : List D × Ev) : Out R := if p.1.length ≤ LIM then .ok (if tup then .val (.tup p.1) else .new p.1) p.2 else .bad
@[simp] theorem mkD0 {tup : Bool} {e : Ev} : mkD tup ([], e) = .ok (if tup then .val (.tup []) else .new []) e := Eq.trans rfl rfl
@[simp] theorem mkD1 {tup : Bool} {e : Ev} {a : D} : mkD tup ([a], e) = .ok (if tup then .val (.tup [a]) else .new [a]) e := Eq.trans rfl rfl
@[simp] theorem mkD2 {tup : Bool} {e : Ev} {a b : D} : mkD tup ([a, b], e) = .ok (if tup then .val (.tup [a, b]) else .new [a, b]) e := Eq.trans rfl rfl
@[simp] theorem mkD3 {tup : Bool} {e : Ev} {a b c : D} : mkD tup ([a, b, c], e) = .ok (if tup then .val (.tup [a, b, c]) else .new [a, b, c]) e := Eq.trans rfl rfl
@[simp] theorem mkD4 {tup : Bool} {e : Ev} {a b c d : D} : mkD tup ([a, b, c, d], e) = .ok (if tup then .val (.tup [a, b, c, d]) else .new [a, b, c, d]) e := Eq.trans rfl rfl
@[simp] theorem mkD5 {tup : Bool} {e : Ev} {a b c d x : D} : mkD tup ([a, b, c, d, x], e) = .ok (if tup then .val (.tup [a, b, c, d, x]) else .new [a, b, c, d, x]) e := Eq.trans rfl rfl
@[simp] theorem mkD8 {tup : Bool} {e : Ev} {a b c d x y z w : D} : mkD tup ([a, b, c, d, x, y, z, w], e) = .ok (if tup then .val (.tup [a, b, c, d, x, y, z, w]) else .new [a, b, c, d, x, y, z, w]) e := Eq.trans rfl rfl
def kMk (tup : Bool) (rs : List R) (e : Ev) : Out R := opt (escs rs e) (mkD tup)
@[simp] theorem kMk_eq {tup : Bool} {rs : List R} {e : Ev} : kMk tup rs e = opt (escs rs e) (mkD tup) := Eq.trans rfl rfl
@[simp] theorem vTup_eq {t : SL} {e : Ev} : vTup t e = (t e).bind (kMk true) := by
  unfold vTup
  congr
  funext rs e
  unfold kMk
  cases escs rs e <;> rfl
@[simp] theorem vLst_eq {t : SL} {e : Ev} : vLst t e = (t e).bind (kMk false) := by
  unfold vLst
  congr
  funext rs e
  unfold kMk
  cases escs rs e <;> rfl
def kCh4 (g' : D → D → Option R) (r2 r3 : R) (e : Ev) : Out R := opt (r2.read e) (kBin2' g' (r3.read e) e)
@[simp] theorem kCh4_eq {g' : D → D → Option R} {r2 r3 : R} {e : Ev} : kCh4 g' r2 r3 e = opt (r2.read e) (kBin2' g' (r3.read e) e) := Eq.trans rfl rfl
def kCh3 (g' : D → D → Option R) (s3 : SE) (r2 : R) (e : Ev) : Out R := (s3 e).bind (kCh4 g' r2)
@[simp] theorem kCh3_eq {g' : D → D → Option R} {s3 : SE} {r2 : R} {e : Ev} : kCh3 g' s3 r2 e = (s3 e).bind (kCh4 g' r2) := Eq.trans rfl rfl
def rBl (r : R) : Option Bool := match r with
  | .val (.bl b) => some b
  | _ => none
@[simp] theorem rBl_eq {b : Bool} : rBl (.val (.bl b)) = some b := Eq.trans rfl rfl
def kCh2w (g' : D → D → Option R) (s3 : SE) (r2 : R) (e : Ev) (b : Bool) : Out R := way (kCh3 g' s3 r2) (kC (.val (.bl false))) b e
@[simp] theorem kCh2w_eq {g' : D → D → Option R} {s3 : SE} {r2 : R} {e : Ev} {b : Bool} : kCh2w g' s3 r2 e b = way (kCh3 g' s3 r2) (kC (.val (.bl false))) b e := Eq.trans rfl rfl
def kCh2 (g g' : D → D → Option R) (s3 : SE) (r1 r2 : R) (e : Ev) : Out R := ((opt (r1.read e) (kBin2' g (r2.read e) e)).bind fun r e => fin (rBl r) e).bind (way (kCh3 g' s3 r2) (kC (.val (.bl false))))
@[simp] theorem kCh2_eq {g g' : D → D → Option R} {s3 : SE} {r1 r2 : R} {e : Ev} : kCh2 g g' s3 r1 r2 e = ((opt (r1.read e) (kBin2' g (r2.read e) e)).bind fun r e => fin (rBl r) e).bind (way (kCh3 g' s3 r2) (kC (.val (.bl false)))) := Eq.trans rfl rfl
def kCh1 (g g' : D → D → Option R) (s2 s3 : SE) (r1 : R) (e : Ev) : Out R := (s2 e).bind (kCh2 g g' s3 r1)
@[simp] theorem kCh1_eq {g g' : D → D → Option R} {s2 s3 : SE} {r1 : R} {e : Ev} : kCh1 g g' s2 s3 r1 e = (s2 e).bind (kCh2 g g' s3 r1) := Eq.trans rfl rfl
@[simp] theorem vChain_eq {g g' : D → D → Option R} {s1 s2 s3 : SE} {e : Ev} : vChain g g' s1 s2 s3 e = (s1 e).bind (kCh1 g g' s2 s3) := by
  unfold vChain
  congr
  funext r1 e1
  unfold kCh1
  congr
  funext r2 e2
  unfold kCh2
  cases h1 : r1.read e2 with
  | none => cases h2 : r2.read e2 <;> rfl
  | some a =>
    cases h2 : r2.read e2 with
    | none => rfl
    | some b =>
      simp only [opt_some, kBin2'_eq, kBin3_eq]
      cases h : g a b with
      | none => rfl
      | some r =>
        simp only [fin_some, Out.bind_ok]
        cases r with
        | val d =>
          cases d with
          | bl t =>
            cases t with
            | true =>
              simp only [rBl_eq, fin_some, Out.bind_ok, way_t, kCh3_eq]
              congr
              funext r3 e3
              unfold kCh4
              cases h3 : r2.read e3 <;> cases h4 : r3.read e3
              · rfl
              · rfl
              · rfl
              · rename_i x y
                simp only [opt_some, kBin2'_eq, kBin3_eq]
                cases g' x y <;> rfl
            | false => rfl
          | _ => rfl
        | _ => rfl
def kNx (e2 : Ev) : Out Fl := .ok .nx e2
@[simp] theorem kNx_eq {e : Ev} : kNx e = .ok .nx e := Eq.trans rfl rfl
def kSet (i : Nat) (r : R) (e : Ev) : Out Fl := opt (stv i r e) kNx
@[simp] theorem kSet_eq {i : Nat} {r : R} {e : Ev} : kSet i r e = opt (stv i r e) kNx := Eq.trans rfl rfl
@[simp] theorem sSet_eq {i : Nat} {s : SE} {e : Ev} : sSet i s e = (s e).bind (kSet i) := by
  unfold sSet
  congr
  funext r e1
  unfold kSet
  cases stv i r e1 <;> rfl
def kDrop (r : R) (e : Ev) : Out Fl := .ok .nx e
@[simp] theorem kDrop_eq {r : R} {e : Ev} : kDrop r e = .ok .nx e := Eq.trans rfl rfl
@[simp] theorem sDrop_eq {s : SE} {e : Ev} : sDrop s e = (s e).bind kDrop := Eq.trans rfl rfl
@[simp] theorem sRet_eq {s : SE} {e : Ev} : sRet s e = (s e).bind retR := Eq.trans rfl rfl
@[simp] theorem sRetN_eq {e : Ev} : sRetN e = .ok (.rt (.val .non)) e := Eq.trans rfl rfl
@[simp] theorem retR_val {d : D} {e : Ev} : retR (.val d) e = .ok (.rt (.val d)) e := Eq.trans rfl rfl
@[simp] theorem retR_liv {n : Nat} {e : Ev} : retR (.liv n) e = .ok (.rt (.val (.ref n))) e := Eq.trans rfl rfl
@[simp] theorem retR_new {d : List D} {e : Ev} : retR (.new d) e = .ok (.rt (.new d)) e := Eq.trans rfl rfl
def retS (s : Option Sl) (e : Ev) : Out Fl := match s with
  | some (.own xs) => .ok (.rt (.new xs)) e
  | some (.val d) => .ok (.rt (.val d)) e
  | _ => .bad
@[simp] theorem retS_own {d : List D} {e : Ev} : retS (some (.own d)) e = .ok (.rt (.new d)) e := Eq.trans rfl rfl
@[simp] theorem retS_val {d : D} {e : Ev} : retS (some (.val d)) e = .ok (.rt (.val d)) e := Eq.trans rfl rfl
@[simp] theorem retR_at {i : Nat} {e : Ev} : retR (.at i) e = retS e[i]? e := Eq.trans rfl rfl
def kAsg2 (g : GT) (p : D × Ev) : Out Fl := opt (g p.1 p.2) kNx
@[simp] theorem kAsg2_eq {g : GT} {p : D × Ev} : kAsg2 g p = opt (g p.1 p.2) kNx := Eq.trans rfl rfl
def kAsg (g : GT) (r : R) (e : Ev) : Out Fl := opt (r.esc e) (kAsg2 g)
@[simp] theorem kAsg_eq {g : GT} {r : R} {e : Ev} : kAsg g r e = opt (r.esc e) (kAsg2 g) := Eq.trans rfl rfl
@[simp] theorem sAsg_eq {g : GT} {s : SE} {e : Ev} : sAsg g s e = (s e).bind (kAsg g) := by
  unfold sAsg
  congr
  funext r e
  unfold kAsg
  cases r.esc e with
  | none => rfl
  | some p => simp only [opt, kAsg2]; cases h : g p.1 p.2 <;> rfl
def kMut4 (e : Ev) (i : Nat) (q : D × List D) : Out R := .ok (.val q.1) (putAt e i q.2)
@[simp] theorem kMut4_eq {i : Nat} {e : Ev} {q : D × List D} : kMut4 e i q = .ok (.val q.1) (putAt e i q.2) := Eq.trans rfl rfl
def kMut3 (i : Nat) (f : List D → List D → Option (D × List D)) (p : List D × Ev) (xs : List D) : Out R := opt (f xs p.1) (kMut4 p.2 i)
@[simp] theorem kMut3_eq {i : Nat} {f : List D → List D → Option (D × List D)} {p : List D × Ev} {xs : List D} : kMut3 i f p xs = opt (f xs p.1) (kMut4 p.2 i) := Eq.trans rfl rfl
def kMut2 (i : Nat) (f : List D → List D → Option (D × List D)) (p : List D × Ev) : Out R := opt (mutAt p.2 i) (kMut3 i f p)
@[simp] theorem kMut2_eq {i : Nat} {f : List D → List D → Option (D × List D)} {p : List D × Ev} : kMut2 i f p = opt (mutAt p.2 i) (kMut3 i f p) := Eq.trans rfl rfl
def kMut1 (i : Nat) (f : List D → List D → Option (D × List D)) (rs : List R) (e : Ev) : Out R := opt (escs rs e) (kMut2 i f)
@[simp] theorem kMut1_eq {i : Nat} {f : List D → List D → Option (D × List D)} {rs : List R} {e : Ev} : kMut1 i f rs e = opt (escs rs e) (kMut2 i f) := Eq.trans rfl rfl
def kMut0 (i : Nat) (f : List D → List D → Option (D × List D)) (t : SL) (e : Ev) (xs : List D) : Out R := (t e).bind (kMut1 i f)
@[simp] theorem kMut0_eq {i : Nat} {f : List D → List D → Option (D × List D)} {t : SL} {e : Ev} {xs : List D} : kMut0 i f t e xs = (t e).bind (kMut1 i f) := Eq.trans rfl rfl
@[simp] theorem vMut_eq {i : Nat} {f : List D → List D → Option (D × List D)} {t : SL} {env : Ev} : vMut i f t env = opt (mutAt env i) (kMut0 i f t env) := by
  unfold vMut
  cases h0 : mutAt env i with
  | none => rfl
  | some _ =>
    simp only [Option.isSome, opt, kMut0, if_true]
    congr
    funext rs e
    unfold kMut1
    cases h : escs rs e with
    | none => rfl
    | some p =>
      obtain ⟨ds, e1⟩ := p
      simp only [opt, kMut2]
      cases h2 : mutAt e1 i with
      | none => rfl
      | some xs =>
        simp only [opt, kMut3]
        cases h3 : f xs ds with
        | none => rfl
        | some q => rfl
def kIx5 (j : Nat) (e : Ev) (xs : List D) (d : D) (n : Nat) : Out Fl := .ok .nx (putAt e j (xs.set n d))
@[simp] theorem kIx5_eq {j : Nat} {e : Ev} {xs : List D} {d : D} {n : Nat} : kIx5 j e xs d n = .ok .nx (putAt e j (xs.set n d)) := Eq.trans rfl rfl
def kIx4 (j : Nat) (d : D) (k : Int) (e : Ev) (xs : List D) : Out Fl := opt (ixN xs.length k) (kIx5 j e xs d)
@[simp] theorem kIx4_eq {j : Nat} {e : Ev} {xs : List D} {d : D} {k : Int} : kIx4 j d k e xs = opt (ixN xs.length k) (kIx5 j e xs d) := Eq.trans rfl rfl
def kIx3 (j : Nat) (d : D) (e : Ev) (k : Int) : Out Fl := opt (mutAt e j) (kIx4 j d k e)
@[simp] theorem kIx3_eq {j : Nat} {e : Ev} {d : D} {k : Int} : kIx3 j d e k = opt (mutAt e j) (kIx4 j d k e) := Eq.trans rfl rfl
def kIx2' (j : Nat) (d : D) (e : Ev) (di : D) : Out Fl := opt (dInt di) (kIx3 j d e)
@[simp] theorem kIx2'_eq {j : Nat} {e : Ev} {d di : D} : kIx2' j d e di = opt (dInt di) (kIx3 j d e) := Eq.trans rfl rfl
def kIx2 (j : Nat) (d : D) (ri : R) (e : Ev) : Out Fl := opt (ri.read e) (kIx2' j d e)
@[simp] theorem kIx2_eq {j : Nat} {e : Ev} {d : D} {ri : R} : kIx2 j d ri e = opt (ri.read e) (kIx2' j d e) := Eq.trans rfl rfl
def kIx1' (j : Nat) (si : SE) (p : D × Ev) : Out Fl := (si p.2).bind (kIx2 j p.1)
@[simp] theorem kIx1'_eq {j : Nat} {si : SE} {p : D × Ev} : kIx1' j si p = (si p.2).bind (kIx2 j p.1) := Eq.trans rfl rfl
def kIx1 (j : Nat) (si : SE) (r : R) (e : Ev) : Out Fl := opt (r.esc e) (kIx1' j si)
@[simp] theorem kIx1_eq {j : Nat} {si : SE} {r : R} {e : Ev} : kIx1 j si r e = opt (r.esc e) (kIx1' j si) := Eq.trans rfl rfl
def kIx0 (j : Nat) (si s : SE) (e : Ev) (xs : List D) : Out Fl := (s e).bind (kIx1 j si)
@[simp] theorem kIx0_eq {j : Nat} {si s : SE} {e : Ev} {xs : List D} : kIx0 j si s e xs = (s e).bind (kIx1 j si) := Eq.trans rfl rfl
@[simp] theorem sSetIx_eq {j : Nat} {si s : SE} {env : Ev} : sSetIx j si s env = opt (mutAt env j) (kIx0 j si s env) := by
  unfold sSetIx
  cases h0 : mutAt env j with
  | none => rfl
  | some _ =>
    simp only [Option.isSome, opt, kIx0, if_true]
    congr
    funext r e1
    unfold kIx1
    cases h : r.esc e1 with
    | none => rfl
    | some p =>
      obtain ⟨d, e2⟩ := p
      simp only [opt, kIx1']
      congr
      funext ri e3
      unfold kIx2
      cases h2 : ri.read e3 with
      | none => rfl
      | some di =>
        cases di with
        | int k =>
          simp only [opt, dInt, kIx2', kIx3]
          cases h3 : mutAt e3 j with
          | none => rfl
          | some xs =>
            simp only [opt, kIx4]
            cases h4 : ixN xs.length k with
            | none => rfl
            | some n => rfl
        | _ => rfl
def slVal (s : Option Sl) : Option D := match s with
  | some (.val d) => some d
  | _ => none
@[simp] theorem slVal_eq {d : D} : slVal (some (.val d)) = some d := Eq.trans rfl rfl
def kAug3 (i : Nat) (e : Ev) (q : R) : Out Fl := match q with
  | .val res => opt (stv i (.val res) e) kNx
  | _ => .bad
@[simp] theorem kAug3_eq {i : Nat} {e : Ev} {d : D} : kAug3 i e (.val d) = opt (stv i (.val d) e) kNx := Eq.trans rfl rfl
def kAug2 (i : Nat) (g : D → D → Option R) (d : D) (e : Ev) (d' : D) : Out Fl := opt (g d d') (kAug3 i e)
@[simp] theorem kAug2_eq {i : Nat} {g : D → D → Option R} {d d' : D} {e : Ev} : kAug2 i g d e d' = opt (g d d') (kAug3 i e) := Eq.trans rfl rfl
def kAug1 (i : Nat) (g : D → D → Option R) (d : D) (r : R) (e : Ev) : Out Fl := opt (r.read e) (kAug2 i g d e)
@[simp] theorem kAug1_eq {i : Nat} {g : D → D → Option R} {d : D} {e : Ev} {r : R} : kAug1 i g d r e = opt (r.read e) (kAug2 i g d e) := Eq.trans rfl rfl
def kAug0 (i : Nat) (g : D → D → Option R) (s : SE) (e : Ev) (d : D) : Out Fl := (s e).bind (kAug1 i g d)
@[simp] theorem kAug0_eq {i : Nat} {g : D → D → Option R} {s : SE} {e : Ev} {d : D} : kAug0 i g s e d = (s e).bind (kAug1 i g d) := Eq.trans rfl rfl
@[simp] theorem sAug_eq {i : Nat} {g : D → D → Option R} {s : SE} {env : Ev} : sAug i g s env = opt (slVal env[i]?) (kAug0 i g s env) := by
  unfold sAug
  cases h0 : env[i]? with
  | none => rfl
  | some sl =>
    cases sl with
    | val d =>
      simp only [slVal, opt, kAug0]
      congr
      funext r e
      unfold kAug1
      cases h2 : r.read e with
      | none => rfl
      | some d' =>
        simp only [opt, kAug2]
        cases h3 : g d d' with
        | none => rfl
        | some q =>
          cases q with
          | val res =>
            simp only [kAug3]
            cases h4 : stv i (.val res) e <;> rfl
          | _ => rfl
    | _ => rfl
def kFor (g : GT) (b : SS) (t : IT) (e : Ev) : Out Fl := mapEv (unlendI t.src e) (forL g b t.items (lendI t.src e))
@[simp] theorem kFor_eq {g : GT} {b : SS} {t : IT} {e : Ev} : kFor g b t e = mapEv (unlendI t.src e) (forL g b t.items (lendI t.src e)) := Eq.trans rfl rfl
@[simp] theorem sFor_eq {it : SI} {g : GT} {b : SS} {e : Ev} : sFor it g b e = (it e).bind (kFor g b) := Eq.trans rfl rfl
@[simp] theorem mapEv_ok {a : α} {e : Ev} {f : Ev → Ev} : mapEv f (Out.ok a e) = .ok a (f e) := Eq.trans rfl rfl
def Out.comp (o : Out (List D)) (f : Ev → Ev) : Out R := match o with
  | .ok acc e => .ok (.new acc) (f e)
  | _ => .bad
@[simp] theorem comp_okR {acc : List D} {e : Ev} {f : Ev → Ev} : (Out.ok acc e).comp f = .ok (.new acc) (f e) := Eq.trans rfl rfl
def backC (vs : List Nat) (t : IT) (e e3 : Ev) : Ev := unlendI t.src e (restore vs (lendI t.src e) e3)
@[simp] theorem backC_eq {vs : List Nat} {t : IT} {e e3 : Ev} : backC vs t e e3 = unlendI t.src e (restore vs (lendI t.src e) e3) := Eq.trans rfl rfl
def kComp (vs : List Nat) (g : GT) (c : SB) (s : SE) (t : IT) (e : Ev) : Out R := (compL g c s vs t.items [] (holes vs (lendI t.src e))).comp (backC vs t e)
@[simp] theorem kComp_eq {vs : List Nat} {g : GT} {c : SB} {s : SE} {t : IT} {e : Ev} : kComp vs g c s t e = (compL g c s vs t.items [] (holes vs (lendI t.src e))).comp (backC vs t e) := Eq.trans rfl rfl
@[simp] theorem vComp_eq {it : SI} {vs : List Nat} {g : GT} {c : SB} {s : SE} {e : Ev} : vComp it vs g c s e = (it e).bind (kComp vs g c s) := by
  unfold vComp
  congr
@[simp] theorem vCall_eq {F : FSem} {t : SL} {e : Ev} : vCall F t e = (t e).bind (callR F) := Eq.trans rfl rfl
def kBack (r : R) (e : Ev) : Out R := .ok r e
@[simp] theorem kBack_eq {r : R} {e : Ev} : kBack r e = .ok r e := Eq.trans rfl rfl
def backB (ms : List Md) (rs1 : List R) (e1 : Ev) (r : R) (ce' : Ev) : Bool := !r.isAt && ((lendIx ms rs1 e1).isEmpty || (r.lf && pinsLf ce'))
@[simp] theorem backB_eq {ms : List Md} {rs1 : List R} {e1 : Ev} {r : R} {ce' : Ev} : backB ms rs1 e1 r ce' = (!r.isAt && ((lendIx ms rs1 e1).isEmpty || (r.lf && pinsLf ce'))) := Eq.trans rfl rfl
def backO (b : Bool) (r : R) (o : Option Ev) : Out R := if b then opt o (kBack r) else .bad
@[simp] theorem backO_t {r : R} {o : Option Ev} : backO true r o = opt o (kBack r) := Eq.trans rfl rfl
def backR (ms : List Md) (rs1 : List R) (e1 : Ev) (o : Out R) : Out R := match o with
  | .ok r ce' => backO (backB ms rs1 e1 r ce') r (back ms rs1 ce' e1)
  | .exn x ce' => if ((lendIx ms rs1 e1).isEmpty || (lfs x.ds && pinsLf ce')) then (match back ms rs1 ce' e1 with
    | some e2 => .exn x e2
    | none => .bad) else .bad
  | .bad => .bad
@[simp] theorem backR_ok {ms : List Md} {rs1 : List R} {e1 : Ev} {r : R} {ce' : Ev} : backR ms rs1 e1 (.ok r ce') = backO (backB ms rs1 e1 r ce') r (back ms rs1 ce' e1) := Eq.trans rfl rfl
def clashO (b : Bool) (o : Out R) : Out R := if b then o else .bad
@[simp] theorem clashO_t {o : Out R} : clashO true o = o := Eq.trans rfl rfl
def kCall2 (F : FSem) (p : List R × Ev) (ce : Ev) : Out R := clashO (noClash (pinIx F.modes p.1) (lendIx F.modes p.1 p.2)) (backR F.modes p.1 p.2 (F.run ce))
@[simp] theorem kCall2_eq {F : FSem} {p : List R × Ev} {ce : Ev} : kCall2 F p ce = clashO (noClash (pinIx F.modes p.1) (lendIx F.modes p.1 p.2)) (backR F.modes p.1 p.2 (F.run ce)) := Eq.trans rfl rfl
def kCall1 (F : FSem) (p : List R × Ev) : Out R := opt (mkArgs F.modes p.1 p.2) (kCall2 F p)
@[simp] theorem kCall1_eq {F : FSem} {p : List R × Ev} : kCall1 F p = opt (mkArgs F.modes p.1 p.2) (kCall2 F p) := Eq.trans rfl rfl
@[simp] theorem callR_eq {F : FSem} {rs : List R} {e : Ev} : callR F rs e = opt (pre F.modes rs e) (kCall1 F) := by
  unfold callR
  cases h : pre F.modes rs e with
  | none => rfl
  | some p =>
    obtain ⟨rs1, e1⟩ := p
    simp only [opt, kCall1]
    cases h2 : mkArgs F.modes rs1 e1 with
    | none => rfl
    | some ce =>
      simp only [opt, kCall2, clashO]
      cases h3 : noClash (pinIx F.modes rs1) (lendIx F.modes rs1 e1) with
      | false => rfl
      | true =>
        cases h4 : F.run ce with
        | bad => rfl
        | ok r ce' =>
          simp only [backR, if_true]
          by_cases h5 : r.isAt = true
          · have hb : backB F.modes rs1 e1 r ce' = false := by rw [backB_eq, h5]; rfl
            rw [hb, if_pos h5]
            rfl
          · have h5' : r.isAt = false := by simpa using h5
            rw [if_neg h5]
            by_cases h6 : ((lendIx F.modes rs1 e1).isEmpty || (r.lf && pinsLf ce')) = true
            · have hb : backB F.modes rs1 e1 r ce' = true := by rw [backB_eq, h5', h6]; rfl
              rw [hb, if_pos h6, backO_t]
              cases back F.modes rs1 ce' e1 <;> rfl
            · have hb : backB F.modes rs1 e1 r ce' = false := by rw [backB_eq, h5']; simpa using h6
              rw [hb, if_neg h6]
              rfl
        | exn x ce' => rfl
def kSeqI (r : R) (e : Ev) : Out IT := fin ((r.walk e).map Prod.fst) e
@[simp] theorem kSeqI_eq {r : R} {e : Ev} : kSeqI r e = fin ((r.walk e).map Prod.fst) e := Eq.trans rfl rfl
@[simp] theorem iSeq_eq {s : SE} {e : Ev} : iSeq s e = (s e).bind kSeqI := by
  unfold iSeq
  congr
  funext r e
  unfold kSeqI
  cases r.walk e <;> rfl
def rng1 (ds : List D) : Option IT := match ds with
  | [.int j] => if -BIG ≤ j ∧ j < BIG then some ⟨rngD 0 j.toNat, []⟩ else none
  | _ => none
theorem rng1_eq {j : Int} (h : -BIG ≤ j ∧ j < BIG) : rng1 [.int j] = some ⟨rngD 0 j.toNat, []⟩ := if_pos h
def kRng2 (e : Ev) (ds : List D) : Out IT := fin (rng1 ds) e
@[simp] theorem kRng2_eq {e : Ev} {ds : List D} : kRng2 e ds = fin (rng1 ds) e := Eq.trans rfl rfl
def kRng (rs : List R) (e : Ev) : Out IT := opt (reads rs e) (kRng2 e)
@[simp] theorem kRng_eq {rs : List R} {e : Ev} : kRng rs e = opt (reads rs e) (kRng2 e) := Eq.trans rfl rfl
@[simp] theorem iRange1_eq {t : SL} {e : Ev} : iRange1 t e = (t e).bind kRng := by
  unfold iRange1
  congr
  funext rs e
  unfold kRng
  cases h : reads rs e with
  | none => rfl
  | some ds =>
    match ds with
    | [] => rfl
    | [.int j] => by_cases h : -BIG ≤ j ∧ j < BIG <;> simp [opt, kRng2, rng1, h, fin]
    | [.non] => rfl
    | [.bl _] => rfl
    | [.str _] => rfl
    | [.tup _] => rfl
    | [.lst _] => rfl
    | [.scr _] => rfl
    | [.obj _ _ _] => rfl
    | [.ref _] => rfl
    | [.exc _ _ _] => rfl
    | _ :: _ :: _ => simp [opt, kRng2, rng1, fin]
def rng2 (ds : List D) : Option IT := match ds with
  | [.int i, .int j] => if -BIG ≤ i ∧ i < BIG ∧ -BIG ≤ j ∧ j < BIG then some ⟨rngD i (j - i).toNat, []⟩ else none
  | _ => none
def kRg2 (e : Ev) (ds : List D) : Out IT := fin (rng2 ds) e
@[simp] theorem kRg2_eq {e : Ev} {ds : List D} : kRg2 e ds = fin (rng2 ds) e := Eq.trans rfl rfl
def kRg (rs : List R) (e : Ev) : Out IT := opt (reads rs e) (kRg2 e)
@[simp] theorem kRg_eq {rs : List R} {e : Ev} : kRg rs e = opt (reads rs e) (kRg2 e) := Eq.trans rfl rfl
@[simp] theorem iRange2_eq {t : SL} {e : Ev} : iRange2 t e = (t e).bind kRg := by
  unfold iRange2
  congr
  funext rs e
  unfold kRg
  cases h : reads rs e with
  | none => rfl
  | some ds =>
    simp only [opt, kRg2]
    unfold rng2
    split
    · rename_i i j e1
      cases e1
      by_cases h : -BIG ≤ i ∧ i < BIG ∧ -BIG ≤ j ∧ j < BIG
      · simp [h, fin]
      · simp only [if_neg h]; rfl
    · rename_i hn
      split
      · rename_i i j; exact absurd rfl (hn i j)
      · rfl
def zip2 (rs : List R) (e : Ev) : Option IT := match rs with
  | [r1, r2] => match (r1.walk e).map Prod.fst, (r2.walk e).map Prod.fst with
    | some t1, some t2 => some ⟨zipD t1.items t2.items, t1.src ++ t2.src⟩
    | _, _ => none
  | _ => none
def kZip (rs : List R) (e : Ev) : Out IT := fin (zip2 rs e) e
@[simp] theorem kZip_eq {rs : List R} {e : Ev} : kZip rs e = fin (zip2 rs e) e := Eq.trans rfl rfl
@[simp] theorem iZip_eq {t : SL} {e : Ev} : iZip t e = (t e).bind kZip := by
  unfold iZip
  congr
  funext rs e
  unfold kZip
  match rs with
  | [r1, r2] => cases h1 : r1.walk e <;> cases h2 : r2.walk e <;> simp [fin, zip2, h1, h2]
  | [] => rfl
  | [_] => rfl
  | _ :: _ :: _ :: _ => rfl
def enum1 (rs : List R) (e : Ev) : Option IT := match rs with
  | [r1] => match (r1.walk e).map Prod.fst with
    | some t1 => some ⟨enumD 0 t1.items, t1.src⟩
    | _ => none
  | _ => none
def kEnum (rs : List R) (e : Ev) : Out IT := fin (enum1 rs e) e
@[simp] theorem kEnum_eq {rs : List R} {e : Ev} : kEnum rs e = fin (enum1 rs e) e := Eq.trans rfl rfl
@[simp] theorem iEnum_eq {t : SL} {e : Ev} : iEnum t e = (t e).bind kEnum := by
  unfold iEnum
  congr
  funext rs e
  unfold kEnum
  match rs with
  | [r1] => cases h1 : r1.walk e <;> simp [fin, enum1, h1]
  | [] => rfl
  | _ :: _ :: _ => rfl
def lstR (d : D) : Option R := match d with
  | .int n => if 0 ≤ n ∧ n ≤ 1000000 then some (.new (rngD 0 n.toNat)) else none
  | _ => none
def kLR2 (e : Ev) (d : D) : Out R := fin (lstR d) e
@[simp] theorem kLR2_eq {e : Ev} {d : D} : kLR2 e d = fin (lstR d) e := Eq.trans rfl rfl
def kLR (r : R) (e : Ev) : Out R := opt (r.read e) (kLR2 e)
@[simp] theorem kLR_eq {r : R} {e : Ev} : kLR r e = opt (r.read e) (kLR2 e) := Eq.trans rfl rfl
@[simp] theorem vListR1_eq {s : SE} {e : Ev} : vListR1 s e = (s e).bind kLR := by
  unfold vListR1
  congr
  funext r e
  unfold kLR
  cases h : r.read e with
  | none => rfl
  | some d =>
    cases d with
    | int n => by_cases h : 0 ≤ n ∧ n ≤ 1000000 <;> simp [opt, kLR2, lstR, fin, h]
    | _ => rfl
def kIsi2 (T : String) (e : Ev) (d : D) : Out R := opt (isiD T d) fun b => .ok (.val (.bl b)) e
@[simp] theorem kIsi2_eq {T : String} {e : Ev} {d : D} : kIsi2 T e d = opt (isiD T d) fun b => .ok (.val (.bl b)) e := Eq.trans rfl rfl
def kIsi (T : String) (r : R) (e : Ev) : Out R := opt (r.read e) (kIsi2 T e)
@[simp] theorem kIsi_eq {T : String} {e : Ev} {r : R} : kIsi T r e = opt (r.read e) (kIsi2 T e) := Eq.trans rfl rfl
@[simp] theorem vIsi_eq {T : String} {s : SE} {e : Ev} : vIsi T s e = (s e).bind (kIsi T) := by
  unfold vIsi
  congr
  funext r e
  unfold kIsi
  cases h : r.read e with
  | none => rfl
  | some d => simp only [opt, kIsi2]; cases isiD T d <;> rfl
def dFld (c f : Str) (d : D) : Option R := match d with
  | .obj c' ks ds => if c' = c then ((ks.zip ds).lookup f).map R.val else none
  | _ => none
def kFld2 (c f : Str) (e : Ev) (d : D) : Out R := fin (dFld c f d) e
@[simp] theorem kFld2_eq {c f : Str} {e : Ev} {d : D} : kFld2 c f e d = fin (dFld c f d) e := Eq.trans rfl rfl
def kFld (c f : Str) (r : R) (e : Ev) : Out R := opt (r.read e) (kFld2 c f e)
@[simp] theorem kFld_eq {c f : Str} {e : Ev} {r : R} : kFld c f r e = opt (r.read e) (kFld2 c f e) := Eq.trans rfl rfl
@[simp] theorem vFld_eq {c f : Str} {s : SE} {e : Ev} : vFld c f s e = (s e).bind (kFld c f) := by
  unfold vFld
  congr
  funext r e
  unfold kFld
  cases h : r.read e with
  | none => rfl
  | some d =>
    cases d with
    | obj c' ks ds =>
      simp only [opt, kFld2, dFld]
      by_cases hc : c' = c
      · simp only [if_pos hc]; cases (ks.zip ds).lookup f <;> rfl
      · simp only [if_neg hc]; rfl
    | _ => rfl
def Out.ret (n : Nat) (o : Out Fl) : Out R := match o with
  | .ok .nx e => .ok (.val .non) (pinsOf n e)
  | .ok (.rt r) e => .ok r (pinsOf n e)
  | .exn x e => .exn x (pinsOf n e)
  | _ => .bad
@[simp] theorem ret_rt {r : R} {e : Ev} {n : Nat} : (Out.ok (.rt r) e).ret n = .ok r (pinsOf n e) := Eq.trans rfl rfl
@[simp] theorem ret_nx {e : Ev} {n : Nat} : (Out.ok .nx e).ret n = .ok (.val .non) (pinsOf n e) := Eq.trans rfl rfl
theorem bodyRun_eq {N : Nat} {b : SS} {env : Ev} (h : env.all Sl.arg = true) : bodyRun N b env = (b (env ++ List.replicate (N - env.length) .hole)).ret env.length := by
  unfold bodyRun Out.ret
  rw [if_pos h]
  all_goals rfl
end
/-! ### the small functions, equation by equation -/
section
variable {d d' : D} {e : Ev} {xs ys : List D} {i j : Nat} {rs : List R} {ms : List Md} {r : R} {m : Md}
def readS (s : Option Sl) : Option D := match s with
  | some (.val d) => some d
  | some s => s.lst?.map D.lst
  | none => none
@[simp] theorem readS_val : readS (some (.val d)) = some d := Eq.trans rfl rfl
@[simp] theorem readS_own : readS (some (.own xs)) = some (.lst xs) := Eq.trans rfl rfl
@[simp] theorem readS_pin : readS (some (.pin xs)) = some (.lst xs) := Eq.trans rfl rfl
@[simp] theorem readS_lent : readS (some (.lent xs)) = some (.lst xs) := Eq.trans rfl rfl
@[simp] theorem read_val : R.read (.val d) e = some d := Eq.trans rfl rfl
@[simp] theorem read_new : R.read (.new xs) e = some (.lst xs) := Eq.trans rfl rfl
@[simp] theorem read_at : R.read (.at i) e = readS e[i]? := Eq.trans rfl rfl
def escS (s : Option Sl) (i : Nat) (e : Ev) : Option (D × Ev) := match s with
  | some (.val d) => some (d, e)
  | some (.own xs) => some (.lst xs, e.set i (.val (.lst xs)))
  | _ => none
@[simp] theorem escS_val : escS (some (.val d)) i e = some (d, e) := Eq.trans rfl rfl
@[simp] theorem escS_own : escS (some (.own xs)) i e = some (.lst xs, e.set i (.val (.lst xs))) := Eq.trans rfl rfl
@[simp] theorem read_liv {n : Nat} : R.read (.liv n) e = (livAt e n).map D.lst := Eq.trans rfl rfl
@[simp] theorem esc_liv {n : Nat} : R.esc (.liv n) e = some (.ref n, e) := Eq.trans rfl rfl
@[simp] theorem esc_val : R.esc (.val d) e = some (d, e) := Eq.trans rfl rfl
@[simp] theorem esc_new : R.esc (.new xs) e = some (.lst xs, e) := Eq.trans rfl rfl
@[simp] theorem esc_at : R.esc (.at i) e = escS e[i]? i e := Eq.trans rfl rfl
@[simp] theorem reads_nil : reads [] e = some [] := Eq.trans rfl rfl
@[simp] theorem reads_cons : reads (r :: rs) e = (r.read e).bind fun d => (reads rs e).map (d :: ·) := by
  rw [reads]
  cases r.read e <;> cases reads rs e <;> rfl
@[simp] theorem escs_nil : escs [] e = some ([], e) := Eq.trans rfl rfl
@[simp] theorem escs_cons : escs (r :: rs) e = (r.esc e).bind fun p => (escs rs p.2).map fun q => (p.1 :: q.1, q.2) := by
  rw [escs]
  cases r.esc e with
  | none => rfl
  | some p => obtain ⟨a, b⟩ := p; simp only [Option.bind_some]; cases escs rs b <;> rfl
@[simp] theorem free_val : Sl.free? (.val d) = true := Eq.trans rfl rfl
@[simp] theorem free_own : Sl.free? (.own xs) = true := Eq.trans rfl rfl
@[simp] theorem free_hole : Sl.free? .hole = true := Eq.trans rfl rfl
def freeS (s : Option Sl) : Bool := match s with
  | some s => s.free?
  | none => false
@[simp] theorem freeS_some {s : Sl} : freeS (some s) = s.free? := Eq.trans rfl rfl
@[simp] theorem freeAt_eq : freeAt e i = freeS e[i]? := Eq.trans rfl rfl
def stvB (b : Bool) (i : Nat) (r : R) (e : Ev) : Option Ev := if b then (match r with
  | .new xs => some (e.set i (.own xs))
  | r => (r.esc e).map fun p => p.2.set i (.val p.1)) else none
@[simp] theorem stv_eq : stv i r e = stvB (freeS e[i]?) i r e := by
  unfold stv stvB
  rw [freeAt_eq]
  cases freeS e[i]? with
  | false => rfl
  | true =>
    cases r with
    | val d => rfl
    | new xs => rfl
    | «at» j => simp only [if_true]; cases (R.at j).esc e <;> rfl
    | liv j => simp only [if_true]; cases (R.at j).esc e <;> rfl
@[simp] theorem stvB_new : stvB true i (.new xs) e = some (e.set i (.own xs)) := Eq.trans rfl rfl
@[simp] theorem stvB_val : stvB true i (.val d) e = some (e.set i (.val d)) := Eq.trans rfl rfl
@[simp] theorem stvB_at : stvB true i (.at j) e = (escS e[j]? j e).map fun p => p.2.set i (.val p.1) := Eq.trans rfl rfl
def gNmB (b : Bool) (i : Nat) (d : D) (e : Ev) : Option Ev := if b then some (e.set i (.val d)) else none
@[simp] theorem gNmB_t : gNmB true i d e = some (e.set i (.val d)) := Eq.trans rfl rfl
@[simp] theorem gNm_eq : gNm i d e = gNmB (freeS e[i]?) i d e := Eq.trans rfl rfl
@[simp] theorem gTp_tup {gs : List GT} : gTp gs (.tup xs) e = gAll gs xs e := Eq.trans rfl rfl
@[simp] theorem gTp_lst {gs : List GT} : gTp gs (.lst xs) e = gAll gs xs e := Eq.trans rfl rfl
@[simp] theorem gAll_nil : gAll [] [] e = some e := Eq.trans rfl rfl
@[simp] theorem gAll_cons {g : GT} {gs : List GT} : gAll (g :: gs) (d :: xs) e = (g d e).bind fun e1 => gAll gs xs e1 := by
  rw [gAll]
  cases g d e <;> rfl
def mutS (s : Option Sl) : Option (List D) := match s with
  | some (.own xs) => some xs
  | some (.pin xs) => some xs
  | _ => none
@[simp] theorem mutS_own : mutS (some (.own xs)) = some xs := Eq.trans rfl rfl
@[simp] theorem mutS_pin : mutS (some (.pin xs)) = some xs := Eq.trans rfl rfl
@[simp] theorem mutAt_eq : mutAt e i = mutS e[i]? := by
  unfold mutAt
  cases e[i]? with
  | none => rfl
  | some s => cases s <;> rfl
def putS (s : Option Sl) (i : Nat) (e : Ev) (xs : List D) : Ev := match s with
  | some (.own _) => e.set i (.own xs)
  | some (.pin _) => e.set i (.pin xs)
  | some s => e.set i s
  | _ => e
@[simp] theorem putS_own : putS (some (.own ys)) i e xs = e.set i (.own xs) := Eq.trans rfl rfl
@[simp] theorem putS_pin : putS (some (.pin ys)) i e xs = e.set i (.pin xs) := Eq.trans rfl rfl
@[simp] theorem putAt_eq : putAt e i xs = putS e[i]? i e xs := by
  unfold putAt
  cases e[i]? with
  | none => rfl
  | some s => cases s <;> rfl
@[simp] theorem seqOf_tup : seqOf (.tup xs) = some xs := Eq.trans rfl rfl
@[simp] theorem seqOf_lst : seqOf (.lst xs) = some xs := Eq.trans rfl rfl
@[simp] theorem seqOf_scr : seqOf (.scr xs) = some xs := Eq.trans rfl rfl
def walkS (s : Option Sl) (i : Nat) : Option (IT × Bool) := match s with
  | some (.val d) => (walkV d).map fun p => (⟨p.1, []⟩, p.2)
  | some s => s.lst?.map fun xs => (⟨xs, [i]⟩, false)
  | none => none
@[simp] theorem walkV_tup : walkV (.tup xs) = some (xs, true) := Eq.trans rfl rfl
@[simp] theorem walkV_lst : walkV (.lst xs) = some (xs, false) := Eq.trans rfl rfl
@[simp] theorem walkV_scr : walkV (.scr xs) = some (xs, false) := Eq.trans rfl rfl
@[simp] theorem walkS_val : walkS (some (.val d)) i = (walkV d).map fun p => (⟨p.1, []⟩, p.2) := Eq.trans rfl rfl
@[simp] theorem walkS_own : walkS (some (.own xs)) i = some (⟨xs, [i]⟩, false) := Eq.trans rfl rfl
@[simp] theorem walkS_pin : walkS (some (.pin xs)) i = some (⟨xs, [i]⟩, false) := Eq.trans rfl rfl
@[simp] theorem walkS_lent : walkS (some (.lent xs)) i = some (⟨xs, [i]⟩, false) := Eq.trans rfl rfl
@[simp] theorem walk_val : R.walk (.val d) e = (walkV d).map fun p => (⟨p.1, []⟩, p.2) := by
  unfold R.walk
  all_goals rfl
@[simp] theorem walk_new : R.walk (.new xs) e = some (⟨xs, []⟩, false) := Eq.trans rfl rfl
@[simp] theorem walk_at' : R.walk (.at i) e = walkS e[i]? i := by
  unfold R.walk walkS
  try simp only
  all_goals (cases e[i]? with
    | none => rfl
    | some s => cases s <;> rfl)
@[simp] theorem preOne_frz : preOne .frz r e = (r.esc e).map fun p => (R.val p.1, p.2) := Eq.trans rfl rfl
@[simp] theorem preOne_lnew : preOne .lend (.new xs) e = some (.val (.lst xs), e) := Eq.trans rfl rfl
@[simp] theorem preOne_lval : preOne .lend (.val d) e = some (.val d, e) := Eq.trans rfl rfl
@[simp] theorem preOne_lat : preOne .lend (.at i) e = some (.at i, e) := Eq.trans rfl rfl
@[simp] theorem preOne_pin : preOne .pin r e = some (r, e) := by cases r <;> rfl
@[simp] theorem pre_nil : pre [] [] e = some ([], e) := Eq.trans rfl rfl
@[simp] theorem pre_cons : pre (m :: ms) (r :: rs) e = (preOne m r e).bind fun p => (pre ms rs p.2).map fun q => (p.1 :: q.1, q.2) := by
  rw [pre]
  cases preOne m r e with
  | none => rfl
  | some p => obtain ⟨a, b⟩ := p; simp only [Option.bind_some]; cases pre ms rs b <;> rfl
def argS (m : Md) (s : Option Sl) : Option Sl := match m, s with
  | .pin, some (.own xs) => some (.pin xs)
  | .pin, some (.pin xs) => some (.pin xs)
  | .pin, _ => none
  | _, some (.val d) => some (.val d)
  | _, some s => s.lst?.map fun xs => .val (.lst xs)
  | _, none => none
@[simp] theorem argS_po : argS .pin (some (.own xs)) = some (.pin xs) := Eq.trans rfl rfl
@[simp] theorem argS_pp : argS .pin (some (.pin xs)) = some (.pin xs) := Eq.trans rfl rfl
@[simp] theorem argS_lv : argS .lend (some (.val d)) = some (.val d) := Eq.trans rfl rfl
@[simp] theorem argS_lo : argS .lend (some (.own xs)) = some (.val (.lst xs)) := Eq.trans rfl rfl
@[simp] theorem argS_lp : argS .lend (some (.pin xs)) = some (.val (.lst xs)) := Eq.trans rfl rfl
@[simp] theorem argS_ll : argS .lend (some (.lent xs)) = some (.val (.lst xs)) := Eq.trans rfl rfl
@[simp] theorem argSl_pnew : argSl .pin (.new xs) e = some (.pin xs) := Eq.trans rfl rfl
@[simp] theorem argSl_lval : argSl .lend (.val d) e = some (.val d) := Eq.trans rfl rfl
@[simp] theorem argSl_fval : argSl .frz (.val d) e = some (.val d) := Eq.trans rfl rfl
@[simp] theorem argSl_pat : argSl .pin (.at i) e = argS .pin e[i]? := by
  unfold argSl argS
  try simp only
  all_goals (cases e[i]? with
    | none => rfl
    | some s => cases s <;> rfl)
@[simp] theorem argSl_lat : argSl .lend (.at i) e = argS .lend e[i]? := by
  unfold argSl argS
  try simp only
  all_goals (cases e[i]? with
    | none => rfl
    | some s => cases s <;> rfl)
@[simp] theorem mkArgs_nil : mkArgs [] [] e = some [] := Eq.trans rfl rfl
@[simp] theorem mkArgs_cons : mkArgs (m :: ms) (r :: rs) e = (argSl m r e).bind fun s => (mkArgs ms rs e).map (s :: ·) := by
  rw [mkArgs]
  cases argSl m r e <;> cases mkArgs ms rs e <;> rfl
@[simp] theorem pinIx_nil : pinIx [] [] = [] := Eq.trans rfl rfl
@[simp] theorem pinIx_pat : pinIx (.pin :: ms) (.at i :: rs) = i :: pinIx ms rs := Eq.trans rfl rfl
@[simp] theorem pinIx_pnew : pinIx (.pin :: ms) (.new xs :: rs) = pinIx ms rs := Eq.trans rfl rfl
@[simp] theorem pinIx_l : pinIx (.lend :: ms) (r :: rs) = pinIx ms rs := by cases r <;> rfl
@[simp] theorem pinIx_f : pinIx (.frz :: ms) (r :: rs) = pinIx ms rs := by cases r <;> rfl
def lendS (s : Option Sl) (i : Nat) (l : List Nat) : List Nat := match s with
  | some (.val _) => l
  | _ => i :: l
@[simp] theorem lendS_val {l : List Nat} : lendS (some (.val d)) i l = l := Eq.trans rfl rfl
@[simp] theorem lendS_own {l : List Nat} : lendS (some (.own xs)) i l = i :: l := Eq.trans rfl rfl
@[simp] theorem lendS_pin {l : List Nat} : lendS (some (.pin xs)) i l = i :: l := Eq.trans rfl rfl
@[simp] theorem lendS_lent {l : List Nat} : lendS (some (.lent xs)) i l = i :: l := Eq.trans rfl rfl
@[simp] theorem lendIx_nil : lendIx [] [] e = [] := Eq.trans rfl rfl
@[simp] theorem lendIx_p : lendIx (.pin :: ms) (r :: rs) e = lendIx ms rs e := Eq.trans rfl rfl
@[simp] theorem lendIx_lv : lendIx (.lend :: ms) (.val d :: rs) e = lendIx ms rs e := Eq.trans rfl rfl
@[simp] theorem lendIx_fv : lendIx (.frz :: ms) (.val d :: rs) e = lendIx ms rs e := Eq.trans rfl rfl
@[simp] theorem lendIx_la : lendIx (.lend :: ms) (.at i :: rs) e = lendS e[i]? i (lendIx ms rs e) := Eq.trans rfl rfl
@[simp] theorem noClash_nil {l : List Nat} : noClash [] l = true := Eq.trans rfl rfl
@[simp] theorem noClash_cons {p : Nat} {ps l : List Nat} : noClash (p :: ps) l = (!ps.elem p && !l.elem p && noClash ps l) := Eq.trans rfl rfl
@[simp] theorem isAt_val : R.isAt (.val d) = false := Eq.trans rfl rfl
@[simp] theorem isAt_new : R.isAt (.new xs) = false := Eq.trans rfl rfl
@[simp] theorem lf_val : R.lf (.val d) = d.lf := Eq.trans rfl rfl
@[simp] theorem lf_new : R.lf (.new xs) = lfs xs := Eq.trans rfl rfl
@[simp] theorem dlf_int {k : Int} : D.lf (.int k) = true := Eq.trans rfl rfl
@[simp] theorem dlf_bl {k : Bool} : D.lf (.bl k) = true := Eq.trans rfl rfl
@[simp] theorem dlf_str {k : Str} : D.lf (.str k) = true := Eq.trans rfl rfl
@[simp] theorem dlf_non : D.lf .non = true := Eq.trans rfl rfl
@[simp] theorem dlf_tup : D.lf (.tup xs) = lfs xs := Eq.trans rfl rfl
@[simp] theorem dlf_obj {c : Str} {ks : List Str} : D.lf (.obj c ks xs) = lfs xs := Eq.trans rfl rfl
@[simp] theorem lfs_nil : lfs [] = true := Eq.trans rfl rfl
@[simp] theorem lfs_cons : lfs (d :: xs) = (d.lf && lfs xs) := Eq.trans rfl rfl
@[simp] theorem lfs_ints : ∀ l : List Int, lfs (l.map D.int) = true
  | [] => rfl
  | _ :: l => lfs_ints l
@[simp] theorem pinsLf_nil : pinsLf [] = true := Eq.trans rfl rfl
@[simp] theorem pinsLf_pin : pinsLf (.pin xs :: e) = (lfs xs && pinsLf e) := Eq.trans rfl rfl
@[simp] theorem pinsLf_hole : pinsLf (.hole :: e) = pinsLf e := Eq.trans rfl rfl
@[simp] theorem pinsOf_0 : pinsOf 0 e = [] := Eq.trans rfl rfl
@[simp] theorem pinsOf_pin' {n : Nat} : pinsOf (n + 1) (.pin xs :: e) = .pin xs :: pinsOf n e := Eq.trans rfl rfl
@[simp] theorem pinsOf_val {n : Nat} : pinsOf (n + 1) (.val d :: e) = .hole :: pinsOf n e := Eq.trans rfl rfl
@[simp] theorem pinsOf_own {n : Nat} : pinsOf (n + 1) (.own xs :: e) = .hole :: pinsOf n e := Eq.trans rfl rfl
@[simp] theorem pinsOf_hole {n : Nat} : pinsOf (n + 1) (.hole :: e) = .hole :: pinsOf n e := Eq.trans rfl rfl
def reO (s : Option Sl) (ys : List D) : Option Sl := s.map fun s => s.re ys
@[simp] theorem reO_own : reO (some (.own xs)) ys = some (.own ys) := Eq.trans rfl rfl
@[simp] theorem reO_pin : reO (some (.pin xs)) ys = some (.pin ys) := Eq.trans rfl rfl
@[simp] theorem back_nil : back [] [] [] e = some e := Eq.trans rfl rfl
@[simp] theorem back_pat {cs : Ev} : back (.pin :: ms) (.at i :: rs) (.pin ys :: cs) e = (reO e[i]? ys).bind fun s => back ms rs cs (e.set i s) := by
  rw [back]
  cases e[i]? <;> rfl
@[simp] theorem back_pnew {cs : Ev} {s : Sl} : back (.pin :: ms) (.new xs :: rs) (s :: cs) e = back ms rs cs e := by cases s <;> rfl
@[simp] theorem back_l {cs : Ev} {s : Sl} : back (.lend :: ms) (r :: rs) (s :: cs) e = back ms rs cs e := by cases r <;> cases s <;> rfl
@[simp] theorem back_f {cs : Ev} {s : Sl} : back (.frz :: ms) (r :: rs) (s :: cs) e = back ms rs cs e := by cases r <;> cases s <;> rfl
@[simp] theorem lendI_nil : lendI [] e = e := Eq.trans rfl rfl
def lendE (s : Option Sl) (i : Nat) (e : Ev) : Ev := match s with
  | some (.own xs) => e.set i (.lent xs)
  | some (.pin xs) => e.set i (.lent xs)
  | _ => e
@[simp] theorem lendE_own : lendE (some (.own xs)) i e = e.set i (.lent xs) := Eq.trans rfl rfl
@[simp] theorem lendE_pin : lendE (some (.pin xs)) i e = e.set i (.lent xs) := Eq.trans rfl rfl
@[simp] theorem lendE_lent : lendE (some (.lent xs)) i e = e := Eq.trans rfl rfl
@[simp] theorem lendI_cons {l : List Nat} : lendI (i :: l) e = lendI l (lendE e[i]? i e) := by
  rw [lendI]
  congr
@[simp] theorem unlendI_nil {e' : Ev} : unlendI [] e e' = e' := Eq.trans rfl rfl
def unlendE (s : Option Sl) (i : Nat) (e : Ev) : Ev := match s with
  | some (.own xs) => e.set i (.own xs)
  | some (.pin xs) => e.set i (.pin xs)
  | _ => e
@[simp] theorem unlendE_own : unlendE (some (.own xs)) i e = e.set i (.own xs) := Eq.trans rfl rfl
@[simp] theorem unlendE_pin : unlendE (some (.pin xs)) i e = e.set i (.pin xs) := Eq.trans rfl rfl
@[simp] theorem unlendE_lent : unlendE (some (.lent xs)) i e = e := Eq.trans rfl rfl
@[simp] theorem unlendI_cons {l : List Nat} {e' : Ev} : unlendI (i :: l) e e' = unlendE e[i]? i (unlendI l (lendE e[i]? i e) e') := Eq.trans rfl rfl
@[simp] theorem holes_nil : holes [] e = e := Eq.trans rfl rfl
@[simp] theorem holes_cons {l : List Nat} : holes (i :: l) e = (holes l e).set i .hole := Eq.trans rfl rfl
def resS (s : Option Sl) (i : Nat) (e : Ev) : Ev := match s with
  | some s => e.set i s
  | none => e
@[simp] theorem resS_some {s : Sl} : resS (some s) i e = e.set i s := Eq.trans rfl rfl
@[simp] theorem restore_nil {e' : Ev} : restore [] e e' = e' := Eq.trans rfl rfl
@[simp] theorem restore_cons {l : List Nat} {e' : Ev} : restore (i :: l) e e' = restore l e (resS (holes l e)[i]? i e') := Eq.trans rfl rfl
@[simp] theorem zip2_eq {r1 r2 : R} : zip2 [r1, r2] e = ((r1.walk e).map Prod.fst).bind fun t1 => ((r2.walk e).map Prod.fst).map fun t2 => ⟨zipD t1.items t2.items, t1.src ++ t2.src⟩ := by
  unfold zip2
  try simp only
  all_goals cases (r1.walk e).map Prod.fst <;> cases (r2.walk e).map Prod.fst <;> rfl
@[simp] theorem enum1_eq {r1 : R} : enum1 [r1] e = ((r1.walk e).map Prod.fst).map fun t1 => ⟨enumD 0 t1.items, t1.src⟩ := by
  unfold enum1
  try simp only
  all_goals cases (r1.walk e).map Prod.fst <;> rfl
@[simp] theorem gSub_eq {a b : Int} : gSub (.int a) (.int b) = some (.val (.int (a - b))) := Eq.trans rfl rfl
@[simp] theorem gAdd_eq {a b : Int} : gAdd (.int a) (.int b) = some (.val (.int (a + b))) := Eq.trans rfl rfl
@[simp] theorem gAddI_eq {a b : Int} : gAddI (.int a) (.int b) = some (.val (.int (a + b))) := Eq.trans rfl rfl
theorem gMul_l {a b : Int} (h : -18446744073709551616 < a) (h2 : a < 18446744073709551616) : gMul (.int a) (.int b) = some (.val (.int (a * b))) := if_pos (.inl ⟨h, h2⟩)
theorem gMul_r {a b : Int} (h : -18446744073709551616 < b) (h2 : b < 18446744073709551616) : gMul (.int a) (.int b) = some (.val (.int (a * b))) := if_pos (.inr ⟨h, h2⟩)
theorem gMod_eq {a b : Int} (h : 0 < b) : gMod (.int a) (.int b) = some (.val (.int (a % b))) := by
  unfold gMod gInt
  simp only
  rw [if_pos h]
  rfl
theorem gPow_eq {a b : Int} (h : 0 ≤ b ∧ b ≤ 1000000 ∧ a.natAbs < 2 ^ 64) : gPow (.int a) (.int b) = some (.val (.int (a ^ b.toNat))) := by
  unfold gPow gInt
  simp only
  rw [if_pos h]
  rfl
@[simp] theorem gLt_eq {a b : Int} : gLt (.int a) (.int b) = some (.val (.bl (decide (a < b)))) := Eq.trans rfl rfl
@[simp] theorem gLe_eq {a b : Int} : gLe (.int a) (.int b) = some (.val (.bl (decide (a ≤ b)))) := Eq.trans rfl rfl
@[simp] theorem gGt_eq {a b : Int} : gGt (.int a) (.int b) = some (.val (.bl (decide (b < a)))) := Eq.trans rfl rfl
@[simp] theorem gGe_eq {a b : Int} : gGe (.int a) (.int b) = some (.val (.bl (decide (b ≤ a)))) := Eq.trans rfl rfl
@[simp] theorem gNeg_eq {a : Int} : gNeg (.int a) = some (.val (.int (-a))) := Eq.trans rfl rfl
@[simp] theorem gIsN_non : gIsN .non .non = some (.val (.bl true)) := Eq.trans rfl rfl
@[simp] theorem gIsN_str {x : Str} : gIsN (.str x) .non = some (.val (.bl false)) := Eq.trans rfl rfl
@[simp] theorem gNotN_non : gNotN .non .non = some (.val (.bl false)) := Eq.trans rfl rfl
@[simp] theorem gNotN_str {x : Str} : gNotN (.str x) .non = some (.val (.bl true)) := Eq.trans rfl rfl
@[simp] theorem gLen_tup : gLen [.tup xs] = some (.val (.int xs.length)) := Eq.trans rfl rfl
@[simp] theorem gLen_lst : gLen [.lst xs] = some (.val (.int xs.length)) := Eq.trans rfl rfl
@[simp] theorem gLen_scr : gLen [.scr xs] = some (.val (.int xs.length)) := Eq.trans rfl rfl
@[simp] theorem gAbs_eq {a : Int} : gAbs [.int a] = some (.val (.int (if a < 0 then -a else a))) := Eq.trans rfl rfl
@[simp] theorem gMin2_eq {a b : Int} : gMin2 [.int a, .int b] = some (.val (.int (if b < a then b else a))) := Eq.trans rfl rfl
@[simp] theorem gMax2_eq {a b : Int} : gMax2 [.int a, .int b] = some (.val (.int (if b > a then b else a))) := Eq.trans rfl rfl
@[simp] theorem gInt1_eq {a : Int} : gInt1 [.int a] = some (.val (.int a)) := Eq.trans rfl rfl
@[simp] theorem gInt1_bl {a : Bool} : gInt1 [.bl a] = some (.val (.int (if a then 1 else 0))) := Eq.trans rfl rfl
@[simp] theorem gList_lst : gList [.lst xs] = some (.new xs) := Eq.trans rfl rfl
@[simp] theorem gList_tup : gList [.tup xs] = some (.new xs) := Eq.trans rfl rfl
@[simp] theorem gTuple_lst : gTuple [.lst xs] = some (.val (.tup xs)) := Eq.trans rfl rfl
@[simp] theorem gTuple_tup : gTuple [.tup xs] = some (.val (.tup xs)) := Eq.trans rfl rfl
@[simp] theorem gIx_tup {k : Int} : gIx (.tup xs) (.int k) = (atI xs k).map R.val := Eq.trans rfl rfl
@[simp] theorem gIx_lst {k : Int} : gIx (.lst xs) (.int k) = (atI xs k).map R.val := Eq.trans rfl rfl
@[simp] theorem gIx_scr {k : Int} : gIx (.scr xs) (.int k) = (atI xs k).map R.val := Eq.trans rfl rfl
@[simp] theorem isi_int_int {k : Int} : isiD "int" (.int k) = some true := Eq.trans rfl rfl
@[simp] theorem isi_bool_int {k : Int} : isiD "bool" (.int k) = some false := Eq.trans rfl rfl
@[simp] theorem isi_tuple_tup : isiD "tuple" (.tup xs) = some true := Eq.trans rfl rfl
@[simp] theorem isi_list_lst : isiD "list" (.lst xs) = some true := Eq.trans rfl rfl
@[simp] theorem isi_bool_bl {k : Bool} : isiD "bool" (.bl k) = some true := Eq.trans rfl rfl
@[simp] theorem isi_str_str {k : Str} : isiD "str" (.str k) = some true := Eq.trans rfl rfl
@[simp] theorem arg_val : Sl.arg (.val d) = true := Eq.trans rfl rfl
@[simp] theorem arg_pin : Sl.arg (.pin xs) = true := Eq.trans rfl rfl
end
end DV
namespace DV
open PySem PySem.Spec L2
/-! ### loops -/
section
variable {g : GT} {b : SS} {c : SB} {s : SE} {vs : List Nat}
def stepF (g : GT) (b : SS) (d : D) (e : Ev) : Out Fl := opt (g d e) b
@[simp] theorem stepF_eq {d : D} {e : Ev} : stepF g b d e = opt (g d e) b := Eq.trans rfl rfl
theorem forL_gen (I : Nat → Ev → Prop) (Q : Fl → Ev → Prop) : ∀ (items : List D) (n : Nat) (e : Ev), I n e →
    (∀ i d e, items[i]? = some d → I (n + i) e → ∃ f e', stepF g b d e = .ok f e' ∧ (((f = .nx ∨ f = .ct) ∧ I (n + i + 1) e') ∨ (f = .bk ∧ Q .nx e') ∨ ∃ r, f = .rt r ∧ Q (.rt r) e')) →
    (∀ e, I (n + items.length) e → Q .nx e) → ∃ f e', forL g b items e = .ok f e' ∧ Q f e'
  | [], n, e, h0, _, he => ⟨.nx, e, rfl, he e h0⟩
  | d :: ds, n, e, h0, hs, he => by
    obtain ⟨f, e', h1, h2⟩ := hs 0 d e rfl h0
    unfold stepF at h1
    unfold forL
    cases q : g d e with
    | none => rw [q] at h1; cases h1
    | some e1 =>
      rw [q] at h1
      have h1 : b e1 = .ok f e' := h1
      simp only [h1]
      have next : I (n + 0 + 1) e' → ∃ f e'', forL g b ds e' = .ok f e'' ∧ Q f e'' := fun hI =>
        forL_gen I Q ds (n + 1) e' hI (fun i d e hi hI => by
          have := hs (i + 1) d e (by simpa using hi) (by rw [show n + (i + 1) = n + 1 + i by omega]; exact hI)
          rw [show n + (i + 1) + 1 = n + 1 + i + 1 by omega] at this
          exact this) (fun e hI => he e (by rw [List.length_cons, show n + (ds.length + 1) = n + 1 + ds.length by omega]; exact hI))
      rcases h2 with ⟨h2 | h2, hI⟩ | ⟨h2, hq⟩ | ⟨r, h2, hq⟩
      · subst h2; exact next hI
      · subst h2; exact next hI
      · subst h2; exact ⟨_, _, rfl, hq⟩
      · subst h2; exact ⟨_, _, rfl, hq⟩
theorem forL_ind (I : Nat → Ev → Prop) {items : List D} {e : Ev} (h0 : I 0 e) (hs : ∀ i d e, items[i]? = some d → I i e → ∃ e', stepF g b d e = .ok .nx e' ∧ I (i + 1) e') : ∃ e', forL g b items e = .ok .nx e' ∧ I items.length e' := by
  obtain ⟨f, e', h1, h2, h3⟩ := forL_gen (g := g) (b := b) I (fun f e => f = .nx ∧ I items.length e) items 0 e h0 (fun i d e hi hI => by
    rw [Nat.zero_add] at hI ⊢
    obtain ⟨e', h1, h2⟩ := hs i d e hi hI
    exact ⟨.nx, e', h1, .inl ⟨.inl rfl, h2⟩⟩) (fun e h => ⟨rfl, by rw [Nat.zero_add] at h; exact h⟩)
  subst h2
  exact ⟨e', h1, h3⟩
def stC2 (vs : List Nat) (acc : List D) (p : D × Ev) : Out (List D) := if acc.length < LIM then .ok (acc ++ [p.1]) (holes vs p.2) else .bad
def stC1 (vs : List Nat) (acc : List D) (r : R) (e : Ev) : Out (List D) := opt (r.esc e) (stC2 vs acc)
@[simp] theorem stC1_eq {acc : List D} {r : R} {e : Ev} : stC1 vs acc r e = opt (r.esc e) (stC2 vs acc) := Eq.trans rfl rfl
def stC0 (s : SE) (vs : List Nat) (acc : List D) (e : Ev) : Out (List D) := (s e).bind (stC1 vs acc)
@[simp] theorem stC0_eq {acc : List D} {e : Ev} : stC0 s vs acc e = (s e).bind (stC1 vs acc) := Eq.trans rfl rfl
def stCn (vs : List Nat) (acc : List D) (e : Ev) : Out (List D) := .ok acc (holes vs e)
@[simp] theorem stCn_eq {acc : List D} {e : Ev} : stCn vs acc e = .ok acc (holes vs e) := Eq.trans rfl rfl
def stCc (c : SB) (s : SE) (vs : List Nat) (acc : List D) (e : Ev) : Out (List D) := (c e).bind (way (stC0 s vs acc) (stCn vs acc))
@[simp] theorem stCc_eq {acc : List D} {e : Ev} : stCc c s vs acc e = (c e).bind (way (stC0 s vs acc) (stCn vs acc)) := Eq.trans rfl rfl
def stepC (g : GT) (c : SB) (s : SE) (vs : List Nat) (d : D) (acc : List D) (e : Ev) : Out (List D) := opt (g d e) (stCc c s vs acc)
@[simp] theorem stepC_eq {d : D} {acc : List D} {e : Ev} : stepC g c s vs d acc e = opt (g d e) (stCc c s vs acc) := Eq.trans rfl rfl
theorem stC2_eq {acc : List D} {p : D × Ev} (h : acc.length < LIM) : stC2 vs acc p = .ok (acc ++ [p.1]) (holes vs p.2) := if_pos h
theorem compL_step {d : D} {ds acc acc' : List D} {e e' : Ev} (h : stepC g c s vs d acc e = .ok acc' e') : compL g c s vs (d :: ds) acc e = compL g c s vs ds acc' e' := by
  unfold stepC stCc at h
  conv => lhs; unfold compL
  cases q : g d e with
  | none => rw [q] at h; cases h
  | some e1 =>
    rw [q] at h
    simp only [opt_some] at h ⊢
    cases q1 : c e1 with
    | ok t e2 =>
      rw [q1] at h
      cases t with
      | false => cases h; rfl
      | true =>
        simp only [Out.bind_ok, way_t, stC0_eq] at h ⊢
        cases q2 : s e2 with
        | ok r e3 =>
          rw [q2] at h
          simp only [Out.bind_ok, stC1_eq] at h ⊢
          cases q3 : r.esc e3 with
          | none => rw [q3] at h; cases h
          | some p =>
            obtain ⟨y, e4⟩ := p
            rw [q3] at h
            simp only [opt_some, stC2] at h ⊢
            by_cases hl : acc.length < LIM
            · rw [if_pos hl] at h ⊢
              cases h
              rfl
            · rw [if_neg hl] at h
              cases h
        | exn x e => rw [q2] at h; cases h
        | bad => rw [q2] at h; cases h
    | exn x e => rw [q1] at h; cases h
    | bad => rw [q1] at h; cases h
theorem compL_gen (I : Nat → List D → Ev → Prop) : ∀ (items : List D) (n : Nat) (acc : List D) (e : Ev), I n acc e →
    (∀ i d acc e, items[i]? = some d → I (n + i) acc e → ∃ acc' e', stepC g c s vs d acc e = .ok acc' e' ∧ I (n + i + 1) acc' e') → ∃ acc' e', compL g c s vs items acc e = .ok acc' e' ∧ I (n + items.length) acc' e'
  | [], n, acc, e, h0, _ => ⟨acc, e, rfl, h0⟩
  | d :: ds, n, acc, e, h0, hs => by
    obtain ⟨acc', e', h1, h2⟩ := hs 0 d acc e rfl h0
    rw [compL_step h1]
    obtain ⟨acc2, e2, h3, h4⟩ := compL_gen I ds (n + 1) acc' e' h2 (fun i d acc e hi hI => by
      have := hs (i + 1) d acc e (by simpa using hi) (by rw [show n + (i + 1) = n + 1 + i by omega]; exact hI)
      rw [show n + (i + 1) + 1 = n + 1 + i + 1 by omega] at this
      exact this)
    exact ⟨acc2, e2, h3, by rw [List.length_cons, show n + (ds.length + 1) = n + 1 + ds.length by omega]; exact h4⟩
theorem compL_ind (I : Nat → List D → Ev → Prop) {items : List D} {e : Ev} (h0 : I 0 [] e) (hs : ∀ i d acc e, items[i]? = some d → I i acc e → ∃ acc' e', stepC g c s vs d acc e = .ok acc' e' ∧ I (i + 1) acc' e') :
    ∃ acc' e', compL g c s vs items [] e = .ok acc' e' ∧ I items.length acc' e' := by
  obtain ⟨acc', e', h1, h2⟩ := compL_gen (g := g) (c := c) (s := s) (vs := vs) I items 0 [] e h0 fun i d acc e hi hI => by
    rw [Nat.zero_add] at hI ⊢
    exact hs i d acc e hi hI
  exact ⟨acc', e', h1, by rw [Nat.zero_add] at h2; exact h2⟩
/-! ### while -/
end
/-! ### lists of numbers, of pairs -/
abbrev nums (l : List Int) : List D := l.map D.int
def pd (p : Int × Int) : D := .tup [.int p.1, .int p.2]
@[simp] theorem pd_eq {a b : Int} : pd (a, b) = .tup [.int a, .int b] := Eq.trans rfl rfl
theorem atI_nat {α : Type} {xs : List α} {k : Int} (h0 : 0 ≤ k) (h1 : k < xs.length) : atI xs k = xs[k.toNat]? := by
  unfold atI ixN
  rw [if_pos h0, if_pos h1]
  rfl
theorem atI_map {α β : Type} {f : α → β} {xs : List α} {k : Int} : atI (xs.map f) k = (atI xs k).map f := by
  unfold atI
  rw [List.length_map]
  cases ixN xs.length k with
  | none => rfl
  | some j => simp
theorem atI_some {α : Type} {xs : List α} {k : Int} (h0 : 0 ≤ k) (h1 : k < xs.length) : ∃ x, atI xs k = some x ∧ xs[k.toNat]? = some x ∧ x ∈ xs := by
  have h : k.toNat < xs.length := by omega
  exact ⟨xs[k.toNat], by rw [atI_nat h0 h1, List.getElem?_eq_getElem h], List.getElem?_eq_getElem h, List.getElem_mem h⟩
theorem rngD_eq {n : Nat} : rngD 0 n = (List.range n).map fun i => D.int (i : Nat) := by
  unfold rngD
  simp
theorem rngD_get {n i : Nat} {d : D} (h : (rngD 0 n)[i]? = some d) : i < n ∧ d = .int (i : Nat) := by
  rw [rngD_eq, List.getElem?_map] at h
  by_cases hi : i < n
  · rw [List.getElem?_range hi] at h
    exact ⟨hi, by simpa using h.symm⟩
  · rw [List.getElem?_eq_none (by simpa using hi)] at h
    cases h
@[simp] theorem rngD_len {lo : Int} {n : Nat} : (rngD lo n).length = n := by simp [rngD]
theorem lfs_pds : ∀ l : List (Int × Int), lfs (l.map pd) = true
  | [] => rfl
  | (a, b) :: l => by simp [lfs_pds l]
/-! ### equality -/
theorem eqv_ints : ∀ (a b : List Int), PyData.eqvAll (toPs (nums a)) (toPs (nums b)) = decide (a = b)
  | [], [] => rfl
  | [], _ :: _ => rfl
  | _ :: _, [] => rfl
  | x :: a, y :: b => by
    show (x == y && PyData.eqvAll (toPs (nums a)) (toPs (nums b))) = _
    rw [eqv_ints a b]
    by_cases h : x = y <;> by_cases h2 : a = b <;> simp [h, h2]
theorem eqv_pds : ∀ (a b : List (Int × Int)), PyData.eqvAll (toPs (a.map pd)) (toPs (b.map pd)) = decide (a = b)
  | [], [] => rfl
  | [], _ :: _ => rfl
  | _ :: _, [] => rfl
  | (x1, x2) :: a, (y1, y2) :: b => by
    show ((x1 == y1 && (x2 == y2 && true)) && PyData.eqvAll (toPs (a.map pd)) (toPs (b.map pd))) = _
    rw [eqv_pds a b]
    by_cases h : x1 = y1 <;> by_cases h1 : x2 = y2 <;> by_cases h2 : a = b <;> simp [h, h1, h2]
@[simp] theorem gEq_int {a b : Int} : gEq (.int a) (.int b) = some (.val (.bl (decide (a = b)))) := by
  show some (R.val (.bl (a == b))) = _
  by_cases h : a = b <;> simp [h]
@[simp] theorem gNe_int {a b : Int} : gNe (.int a) (.int b) = some (.val (.bl (decide (a ≠ b)))) := by
  show some (R.val (.bl (!(a == b)))) = _
  by_cases h : a = b <;> simp [h]
theorem shp_ints {n : Nat} : ∀ l : List Int, (nums l).all (D.shp n) = true
  | [] => rfl
  | x :: l => by
    show (D.shp n (.int x) && (nums l).all (D.shp n)) = true
    rw [shp_ints l]
    cases n <;> rfl
theorem shp_pds {n : Nat} : ∀ l : List (Int × Int), (l.map pd).all (D.shp (n + 1)) = true
  | [] => rfl
  | (a, b) :: l => by
    rw [List.map_cons, List.all_cons, shp_pds l]
    cases n <;> rfl
theorem shp_tn (a : List Int) : D.shp 8 (.tup (nums a)) = true := shp_ints (n := 7) a
theorem shp_ln (a : List Int) : D.shp 8 (.lst (nums a)) = true := shp_ints (n := 7) a
theorem shp_tp (a : List (Int × Int)) : D.shp 8 (.tup (a.map pd)) = true := shp_pds (n := 6) a
theorem shp_lp (a : List (Int × Int)) : D.shp 8 (.lst (a.map pd)) = true := shp_pds (n := 6) a
theorem gEq_of {d d' : D} (h : d.shp 8 = true) (h' : d'.shp 8 = true) : gEq d d' = some (.val (.bl (PyData.eqv d.toP d'.toP))) := by
  unfold gEq
  rw [h, h']
  rfl
theorem gNe_of {d d' : D} (h : d.shp 8 = true) (h' : d'.shp 8 = true) : gNe d d' = some (.val (.bl (!PyData.eqv d.toP d'.toP))) := by
  unfold gNe
  rw [h, h']
  rfl
@[simp] theorem gEq_tints {a b : List Int} : gEq (.tup (nums a)) (.tup (nums b)) = some (.val (.bl (decide (a = b)))) := by
  rw [gEq_of (shp_tn a) (shp_tn b)]
  show some (R.val (.bl (PyData.eqvAll (toPs (nums a)) (toPs (nums b))))) = _
  rw [eqv_ints]
@[simp] theorem gEq_lints {a b : List Int} : gEq (.lst (nums a)) (.lst (nums b)) = some (.val (.bl (decide (a = b)))) := by
  rw [gEq_of (shp_ln a) (shp_ln b)]
  show some (R.val (.bl (PyData.eqvAll (toPs (nums a)) (toPs (nums b))))) = _
  rw [eqv_ints]
@[simp] theorem gNe_tints {a b : List Int} : gNe (.tup (nums a)) (.tup (nums b)) = some (.val (.bl (decide (a ≠ b)))) := by
  rw [gNe_of (shp_tn a) (shp_tn b)]
  show some (R.val (.bl (!PyData.eqvAll (toPs (nums a)) (toPs (nums b))))) = _
  rw [eqv_ints]
  by_cases h : a = b <;> simp [h]
@[simp] theorem gNe_lints {a b : List Int} : gNe (.lst (nums a)) (.lst (nums b)) = some (.val (.bl (decide (a ≠ b)))) := by
  rw [gNe_of (shp_ln a) (shp_ln b)]
  show some (R.val (.bl (!PyData.eqvAll (toPs (nums a)) (toPs (nums b))))) = _
  rw [eqv_ints]
  by_cases h : a = b <;> simp [h]
@[simp] theorem gEq_tpds {a b : List (Int × Int)} : gEq (.tup (a.map pd)) (.tup (b.map pd)) = some (.val (.bl (decide (a = b)))) := by
  rw [gEq_of (shp_tp a) (shp_tp b)]
  show some (R.val (.bl (PyData.eqvAll (toPs (a.map pd)) (toPs (b.map pd))))) = _
  rw [eqv_pds]
@[simp] theorem gEq_lpds {a b : List (Int × Int)} : gEq (.lst (a.map pd)) (.lst (b.map pd)) = some (.val (.bl (decide (a = b)))) := by
  rw [gEq_of (shp_lp a) (shp_lp b)]
  show some (R.val (.bl (PyData.eqvAll (toPs (a.map pd)) (toPs (b.map pd))))) = _
  rw [eqv_pds]
/-! ### the list that is drawn from -/
def Pool (p : List D) : Prop := ∃ a b c d : Int, p = [.int a, .int b, .int c, .int d]
theorem Pool.lf {p : List D} (h : Pool p) : lfs p = true := by
  obtain ⟨a, b, c, d, rfl⟩ := h
  rfl
theorem flats_ints : ∀ l : List Int, flats (nums l) = some (l.map V.int)
  | [] => rfl
  | x :: l => by
    have := flats_ints l
    simp only [List.map_cons, flats, D.flat, this]
theorem allOf_ints : ∀ l : List Int, allOf D.int? (nums l) = some l
  | [] => rfl
  | x :: l => by
    have := allOf_ints l
    simp only [List.map_cons, allOf, D.int?, this]
end DV
namespace DV
open PySem PySem.Spec L2
theorem room65 {k : Nat} {A : Around} (r : Room k A) : A.units + 65 < cLine := by have := r.un; omega
/-! ### x.count(y), x.index(y) of lists and tuples -/
section
variable {X : Cx}
end
/-! ### the call -/
section
variable {X : Cx} {W : WX} {o e : Expr} {to te : TE}
def seqKind (d : Option D) : Option Bool := match d with
  | some (.tup _) => some true
  | some (.lst _) => some false
  | some (.scr _) => some false
  | _ => none
def vSM (g : D → D → Option R) (s t : SE) : SE := fun env => (s env).bind fun r1 e1 => match seqKind (r1.read e1) with
  | some k => (t e1).bind fun r2 e2 => match r1.read e2, r2.read e2 with
    | some a, some b => if seqKind (some a) = some k then (match g a b with
      | some r => .ok r e2
      | none => .bad) else .bad
    | _, _ => .bad
  | none => .bad
def gCount (d e : D) : Option R := match seqOf d with
  | some xs => if (D.lst xs).shp 8 && e.shp 8 then some (.val (.int (xs.countP fun z => PyData.eqv z.toP e.toP : Nat))) else none
  | none => none
/-! running -/
def kSM4 (g : D → D → Option R) (k : Bool) (a : D) (e : Ev) (b : D) : Out R := if seqKind (some a) = some k then fin (g a b) e else .bad
def kSM3 (g : D → D → Option R) (k : Bool) (o : Option D) (e : Ev) (a : D) : Out R := opt o (kSM4 g k a e)
@[simp] theorem kSM3_eq {g : D → D → Option R} {k : Bool} {o : Option D} {e : Ev} {a : D} : kSM3 g k o e a = opt o (kSM4 g k a e) := Eq.trans rfl rfl
@[simp] theorem kSM4_t {g : D → D → Option R} {xs : List D} {e : Ev} {b : D} : kSM4 g true (.tup xs) e b = fin (g (.tup xs) b) e := if_pos rfl
@[simp] theorem kSM4_l {g : D → D → Option R} {xs : List D} {e : Ev} {b : D} : kSM4 g false (.lst xs) e b = fin (g (.lst xs) b) e := if_pos rfl
@[simp] theorem kSM4_s {g : D → D → Option R} {xs : List D} {e : Ev} {b : D} : kSM4 g false (.scr xs) e b = fin (g (.scr xs) b) e := if_pos rfl
def kSM2 (g : D → D → Option R) (r1 : R) (k : Bool) (r2 : R) (e : Ev) : Out R := opt (r1.read e) (kSM3 g k (r2.read e) e)
@[simp] theorem kSM2_eq {g : D → D → Option R} {r1 : R} {k : Bool} {r2 : R} {e : Ev} : kSM2 g r1 k r2 e = opt (r1.read e) (kSM3 g k (r2.read e) e) := Eq.trans rfl rfl
def kSM1 (g : D → D → Option R) (t : SE) (r1 : R) (e : Ev) (k : Bool) : Out R := (t e).bind (kSM2 g r1 k)
@[simp] theorem kSM1_eq {g : D → D → Option R} {t : SE} {r1 : R} {e : Ev} {k : Bool} : kSM1 g t r1 e k = (t e).bind (kSM2 g r1 k) := Eq.trans rfl rfl
def kSM0 (g : D → D → Option R) (t : SE) (r1 : R) (e : Ev) : Out R := opt (seqKind (r1.read e)) (kSM1 g t r1 e)
@[simp] theorem kSM0_eq {g : D → D → Option R} {t : SE} {r1 : R} {e : Ev} : kSM0 g t r1 e = opt (seqKind (r1.read e)) (kSM1 g t r1 e) := Eq.trans rfl rfl
@[simp] theorem seqKind_t {xs : List D} : seqKind (some (.tup xs)) = some true := Eq.trans rfl rfl
@[simp] theorem seqKind_l {xs : List D} : seqKind (some (.lst xs)) = some false := Eq.trans rfl rfl
@[simp] theorem seqKind_s {xs : List D} : seqKind (some (.scr xs)) = some false := Eq.trans rfl rfl
@[simp] theorem vSM_eq {g : D → D → Option R} {s t : SE} {e : Ev} : vSM g s t e = (s e).bind (kSM0 g t) := by
  unfold vSM
  congr
  funext r1 e1
  unfold kSM0
  cases seqKind (r1.read e1) with
  | none => rfl
  | some k =>
    simp only [opt_some, kSM1]
    congr
    funext r2 e2
    unfold kSM2
    cases h1 : r1.read e2 <;> cases h2 : r2.read e2
    · rfl
    · rfl
    · rfl
    · rename_i a b
      simp only [opt_some, kSM3, kSM4]
      by_cases hk : seqKind (some a) = some k
      · simp only [if_pos hk]
        cases g a b <;> rfl
      · simp only [if_neg hk]
theorem countP_nums {l : List Int} {b : Int} : (nums l).countP (fun z => PyData.eqv z.toP (D.int b).toP) = l.count b := by
  rw [List.countP_map, List.count]
  exact List.countP_congr fun x _ => Iff.rfl
theorem gCount_nums {d : D} {l : List Int} {b : Int} (h : seqOf d = some (nums l)) : gCount d (.int b) = some (.val (.int (l.count b : Nat))) := by
  unfold gCount
  rw [h]
  have e1 : (D.lst (nums l)).shp 8 = true := shp_ln l
  have e2 : (D.int b).shp 8 = true := rfl
  simp only [e1, e2, Bool.and_self, if_true, countP_nums]
@[simp] theorem gCount_t {l : List Int} {b : Int} : gCount (.tup (nums l)) (.int b) = some (.val (.int (l.count b : Nat))) := gCount_nums rfl
@[simp] theorem gCount_l {l : List Int} {b : Int} : gCount (.lst (nums l)) (.int b) = some (.val (.int (l.count b : Nat))) := gCount_nums rfl
end
end DV
namespace DV
open PySem PySem.Spec L2
/-! ### x[i] op= e -/
section
variable {X : Cx} {W : WX} {M : MC}
def sAugIx (j : Nat) (g : D → D → Option R) (si s : SE) : SS := fun env => if (mutAt env j).isSome then ((si env).bind fun ri e1 => match ri.read e1 with
  | some (.int k) => match mutAt e1 j with
    | some xs => match L2.atI xs k with
      | some old => (s e1).bind fun r e2 => match r.read e2 with
        | some d => match g old d with
          | some (.val new) => match mutAt e2 j with
            | some ys => match ixN ys.length k with
              | some n => .ok .nx (putAt e2 j (ys.set n new))
              | none => .bad
            | none => .bad
          | _ => .bad
        | none => .bad
      | none => .bad
    | none => .bad
  | _ => .bad) else .bad
end
/-! running -/
section
def aIx7 (j : Nat) (new : D) (e : Ev) (ys : List D) (n : Nat) : Out Fl := .ok .nx (putAt e j (ys.set n new))
@[simp] theorem aIx7_eq {j : Nat} {new : D} {e : Ev} {ys : List D} {n : Nat} : aIx7 j new e ys n = .ok .nx (putAt e j (ys.set n new)) := Eq.trans rfl rfl
def aIx6 (j : Nat) (k : Int) (new : D) (e : Ev) (ys : List D) : Out Fl := opt (ixN ys.length k) (aIx7 j new e ys)
@[simp] theorem aIx6_eq {j : Nat} {k : Int} {new : D} {e : Ev} {ys : List D} : aIx6 j k new e ys = opt (ixN ys.length k) (aIx7 j new e ys) := Eq.trans rfl rfl
def aIx5 (j : Nat) (k : Int) (e : Ev) (q : R) : Out Fl := match q with
  | .val new => opt (mutAt e j) (aIx6 j k new e)
  | _ => .bad
@[simp] theorem aIx5_eq {j : Nat} {k : Int} {new : D} {e : Ev} : aIx5 j k e (.val new) = opt (mutAt e j) (aIx6 j k new e) := Eq.trans rfl rfl
def aIx4 (j : Nat) (g : D → D → Option R) (k : Int) (old : D) (e : Ev) (d : D) : Out Fl := opt (g old d) (aIx5 j k e)
@[simp] theorem aIx4_eq {j : Nat} {g : D → D → Option R} {k : Int} {old d : D} {e : Ev} : aIx4 j g k old e d = opt (g old d) (aIx5 j k e) := Eq.trans rfl rfl
def aIx3 (j : Nat) (g : D → D → Option R) (k : Int) (old : D) (r : R) (e : Ev) : Out Fl := opt (r.read e) (aIx4 j g k old e)
@[simp] theorem aIx3_eq {j : Nat} {g : D → D → Option R} {k : Int} {old : D} {r : R} {e : Ev} : aIx3 j g k old r e = opt (r.read e) (aIx4 j g k old e) := Eq.trans rfl rfl
def aIx2 (j : Nat) (g : D → D → Option R) (s : SE) (k : Int) (e : Ev) (old : D) : Out Fl := (s e).bind (aIx3 j g k old)
@[simp] theorem aIx2_eq {j : Nat} {g : D → D → Option R} {s : SE} {k : Int} {old : D} {e : Ev} : aIx2 j g s k e old = (s e).bind (aIx3 j g k old) := Eq.trans rfl rfl
def aIx1 (j : Nat) (g : D → D → Option R) (s : SE) (k : Int) (e : Ev) (xs : List D) : Out Fl := opt (L2.atI xs k) (aIx2 j g s k e)
@[simp] theorem aIx1_eq {j : Nat} {g : D → D → Option R} {s : SE} {k : Int} {xs : List D} {e : Ev} : aIx1 j g s k e xs = opt (L2.atI xs k) (aIx2 j g s k e) := Eq.trans rfl rfl
def aIx0' (j : Nat) (g : D → D → Option R) (s : SE) (e : Ev) (k : Int) : Out Fl := opt (mutAt e j) (aIx1 j g s k e)
@[simp] theorem aIx0'_eq {j : Nat} {g : D → D → Option R} {s : SE} {k : Int} {e : Ev} : aIx0' j g s e k = opt (mutAt e j) (aIx1 j g s k e) := Eq.trans rfl rfl
def aIx0 (j : Nat) (g : D → D → Option R) (s : SE) (e : Ev) (d : D) : Out Fl := opt (dInt d) (aIx0' j g s e)
@[simp] theorem aIx0_eq {j : Nat} {g : D → D → Option R} {s : SE} {d : D} {e : Ev} : aIx0 j g s e d = opt (dInt d) (aIx0' j g s e) := Eq.trans rfl rfl
def aIxR (j : Nat) (g : D → D → Option R) (s : SE) (r : R) (e : Ev) : Out Fl := opt (r.read e) (aIx0 j g s e)
@[simp] theorem aIxR_eq {j : Nat} {g : D → D → Option R} {s : SE} {r : R} {e : Ev} : aIxR j g s r e = opt (r.read e) (aIx0 j g s e) := Eq.trans rfl rfl
def aIxS (j : Nat) (g : D → D → Option R) (si s : SE) (e : Ev) (xs : List D) : Out Fl := (si e).bind (aIxR j g s)
@[simp] theorem aIxS_eq {j : Nat} {g : D → D → Option R} {si s : SE} {xs : List D} {e : Ev} : aIxS j g si s e xs = (si e).bind (aIxR j g s) := Eq.trans rfl rfl
@[simp] theorem sAugIx_eq {j : Nat} {g : D → D → Option R} {si s : SE} {env : Ev} : sAugIx j g si s env = opt (mutAt env j) (aIxS j g si s env) := by
  unfold sAugIx
  cases h0 : mutAt env j with
  | none => rfl
  | some _ =>
    simp only [Option.isSome, opt, aIxS, if_true]
    congr
    funext ri e1
    unfold aIxR
    cases h1 : ri.read e1 with
    | none => rfl
    | some di =>
      cases di with
      | int k =>
        simp only [opt, aIx0, dInt, aIx0']
        cases h2 : mutAt e1 j with
        | none => rfl
        | some xs =>
          simp only [opt, aIx1]
          cases h3 : L2.atI xs k with
          | none => rfl
          | some old =>
            simp only [opt, aIx2]
            congr
            funext r e2
            unfold aIx3
            cases h4 : r.read e2 with
            | none => rfl
            | some d =>
              simp only [opt, aIx4]
              cases h5 : g old d with
              | none => rfl
              | some q =>
                cases q with
                | val new =>
                  simp only [aIx5]
                  cases h6 : mutAt e2 j with
                  | none => rfl
                  | some ys =>
                    simp only [opt, aIx6]
                    cases h7 : ixN ys.length k with
                    | none => rfl
                    | some n => rfl
                | _ => rfl
      | _ => rfl
end
end DV
namespace DV
open PySem PySem.Spec L2
/-! ### _law_take -/
theorem gPow_m {x p : Int} (h0 : 0 < p) (h : p < 2147483648) : gPow (.int (x % p)) (.int 5) = some (.val (.int ((x % p) ^ 5))) := by
  have h1 := Int.emod_nonneg x (show p ≠ 0 by omega)
  have h2 := Int.emod_lt_of_pos x h0
  exact gPow_eq ⟨by decide, by decide, by omega⟩
theorem primes_at (k : Int) : ∃ p, atI [D.int 2147483629, D.int 2147483587, D.int 2147483579, D.int 2147483563, D.int 2147483549, D.int 2147483543, D.int 2147483497, D.int 2147483489] (k % 8) = some (.int p) ∧ 0 < p ∧ p < 2147483648 := by
  have h1 := Int.emod_nonneg k (show (8 : Int) ≠ 0 by decide)
  have h2 := Int.emod_lt_of_pos k (show (0 : Int) < 8 by decide)
  have : k % 8 = 0 ∨ k % 8 = 1 ∨ k % 8 = 2 ∨ k % 8 = 3 ∨ k % 8 = 4 ∨ k % 8 = 5 ∨ k % 8 = 6 ∨ k % 8 = 7 := by omega
  rcases this with h | h | h | h | h | h | h | h <;> rw [h] <;> exact ⟨_, rfl, by decide, by decide⟩
/-! ### _law_mix -/
/-! ### ways along pairs -/
abbrev Prs := List (Int × Int)
inductive Rch (ps : Prs) : Int → Int → Prop
  | refl (a : Int) : Rch ps a a
  | step {a b c : Int} : Rch ps a b → (b, c) ∈ ps → Rch ps a c
theorem Rch.trans {ps : Prs} {a b c : Int} (h : Rch ps a b) (g : Rch ps b c) : Rch ps a c := by
  induction g with
  | refl => exact h
  | step _ e ih => exact .step ih e
theorem Rch.one {ps : Prs} {a b : Int} (h : (a, b) ∈ ps) : Rch ps a b := .step (.refl a) h
theorem Rch.mono {ps qs : Prs} (s : ∀ q ∈ ps, q ∈ qs) {a b : Int} (h : Rch ps a b) : Rch qs a b := by
  induction h with
  | refl => exact .refl _
  | step _ e ih => exact .step ih (s _ e)
theorem Rch.map {ps qs : Prs} (f : Int → Int) (s : ∀ q ∈ ps, (f q.1, f q.2) ∈ qs) {a b : Int} (h : Rch ps a b) : Rch qs (f a) (f b) := by
  induction h with
  | refl => exact .refl _
  | step _ e ih => exact .step ih (s _ e)
/-- within the bounds; every work is reached from 0 and reaches it -/
structure Str0 (many : Int) (ps : Prs) : Prop where
  inn : ∀ q ∈ ps, 0 ≤ q.1 ∧ q.1 < many ∧ 0 ≤ q.2 ∧ q.2 < many
  out : ∀ v, 0 ≤ v → v < many → Rch ps 0 v
  back : ∀ v, 0 ≤ v → v < many → Rch ps v 0
theorem Str0.more {many : Int} {ps qs : Prs} (h : Str0 many ps) (s : ∀ q ∈ ps, q ∈ qs) (i : ∀ q ∈ qs, 0 ≤ q.1 ∧ q.1 < many ∧ 0 ≤ q.2 ∧ q.2 < many) : Str0 many qs :=
  ⟨i, fun v h0 h1 => (h.out v h0 h1).mono s, fun v h0 h1 => (h.back v h0 h1).mono s⟩
/-- an ear -/
def path (h : Int) (k : Nat) : Prs := (List.range k).map fun (j : Nat) => (h + (j : Int), h + (j : Int) + 1)
/-! ### what is found from 0 -/
theorem len_sub : ∀ (l m : List Int), l.Nodup → (∀ v ∈ l, v ∈ m) → l.length ≤ m.length
  | [], _, _, _ => Nat.zero_le _
  | x :: l, m, nd, h => by
    have nd2 := List.nodup_cons.mp nd
    have hx := h x List.mem_cons_self
    have := len_sub l (m.erase x) nd2.2 fun v hv => (List.mem_erase_of_ne (fun z => nd2.1 (by rw [← z]; exact hv))).mpr (h v (List.mem_cons_of_mem _ hv))
    rw [List.length_erase_of_mem hx] at this
    have : 0 < m.length := List.length_pos_of_mem hx
    rw [List.length_cons]
    omega
theorem nodup_len {l : List Int} {many : Int} (nd : l.Nodup) (h : ∀ v ∈ l, 0 ≤ v ∧ v < many) (h0 : 0 ≤ many) : (l.length : Int) ≤ many := by
  have := len_sub l ((List.range many.toNat).map fun (i : Nat) => (i : Int)) nd fun v hv => by
    have := h v hv
    exact List.mem_map.mpr ⟨v.toNat, List.mem_range.mpr (by omega), by omega⟩
  simp at this
  omega
theorem range_nodup {n : Nat} : ((List.range n).map fun (i : Nat) => (i : Int)).Nodup :=
  List.Pairwise.map _ (fun a b h z => h (by omega)) (List.nodup_range (n := n))
/-! ### _law_ears -/
/-! ### _law_net -/
theorem Str0.pos {many : Int} {ps : Prs} (h : Str0 many ps) (h2 : 2 ≤ many) : 0 < ps.length := by
  have := h.back 1 (by omega) (by omega)
  cases this with
  | step _ e => exact List.length_pos_of_mem e
def nameF (ns : List Int) (v : Int) : Int := (ns[v.toNat]?).getD 0
theorem name_at {ns : List Int} {v : Int} (h0 : 0 ≤ v) (h1 : v < ns.length) : atI (nums ns) v = some (.int (nameF ns v)) := by
  rw [atI_map, atI_nat h0 h1, nameF, List.getElem?_eq_getElem (by omega)]
  rfl
/-! ### reached -/
theorem inV_nums {b : Int} {l : List Int} : inV (.int b) (l.map V.int) = decide (b ∈ l) := by
  unfold inV
  induction l with
  | nil => rfl
  | cons x l ih =>
    rw [List.map_cons, List.any_cons, ih]
    have : eqV (.int x) (.int b) = decide (b = x) := by
      unfold eqV
      by_cases h : b = x
      · simp [h]
      · simp [h]
        intro z
        exact absurd z.symm h
    rw [this]
    by_cases h : b = x <;> by_cases h2 : b ∈ l <;> simp [h, h2]
@[simp] theorem gIn_lnums {b : Int} {l : List Int} {neg : Bool} : gIn neg (.int b) (.lst (nums l)) = some (.val (.bl (if neg then !decide (b ∈ l) else decide (b ∈ l)))) := by
  unfold gIn
  simp only [seqOf, D.flat, flats_ints, inV_nums]
@[simp] theorem gIn_tnums {b : Int} {l : List Int} {neg : Bool} : gIn neg (.int b) (.tup (nums l)) = some (.val (.bl (if neg then !decide (b ∈ l) else decide (b ∈ l)))) := by
  unfold gIn
  simp only [seqOf, D.flat, flats_ints, inV_nums]
/-- a list or a tuple of pairs -/
def PrsD (d : D) (ps : Prs) : Prop := d = .lst (ps.map pd) ∨ d = .tup (ps.map pd)
/-! ### hangs, why_none, Net -/
theorem PrsD.walk {d : D} {ps : Prs} (h : PrsD d ps) : ∃ b, walkV d = some (ps.map pd, b) := by
  rcases h with rfl | rfl
  · exact ⟨_, rfl⟩
  · exact ⟨_, rfl⟩
theorem PrsD.len {d : D} {ps : Prs} (h : PrsD d ps) : gLen [d] = some (.val (.int ps.length)) := by
  rcases h with rfl | rfl <;> simp
def netD (many : Int) (ps : Prs) : D := .obj "Net" ["many", "stores"] [.int many, .tup (ps.map pd)]
/-! ### _law_coins, _law_whole, _law_numbers -/
def NumD (d : D) (l : List Int) : Prop := d = .lst (nums l) ∨ d = .tup (nums l)
theorem NumD.seq {d : D} {l : List Int} (h : NumD d l) : seqOf d = some (nums l) := by rcases h with rfl | rfl <;> rfl
theorem NumD.walk {d : D} {l : List Int} (h : NumD d l) : ∃ b, walkV d = some (nums l, b) := by
  rcases h with rfl | rfl
  · exact ⟨_, rfl⟩
  · exact ⟨_, rfl⟩
theorem NumD.len {d : D} {l : List Int} (h : NumD d l) : gLen [d] = some (.val (.int l.length)) := by rcases h with rfl | rfl <;> simp
theorem NumD.ix {d : D} {l : List Int} (h : NumD d l) {v : Int} (h0 : 0 ≤ v) (h1 : v < l.length) : gIx d (.int v) = some (.val (.int (nameF l v))) := by
  rcases h with rfl | rfl <;> simp [name_at h0 h1]
theorem PrsD.ix {d : D} {l : Prs} (h : PrsD d l) {i : Nat} {q : Int × Int} (e : l[i]? = some q) : gIx d (.int (i : Nat)) = some (.val (pd q)) := by
  have hi : i < l.length := (List.getElem?_eq_some_iff.mp e).1
  have : atI (l.map pd) (i : Int) = some (pd q) := by
    rw [atI_map, atI_nat (by omega) (by omega), Int.toNat_natCast, e]
    rfl
  rcases h with rfl | rfl <;> simp [this]
/-! ### come_to, _law_behind -/
def cmL (ts cs : List Int) (ps : Prs) : List Int := (cs.zip ps).map fun x => x.1 + nameF ts x.2.1 - nameF ts x.2.2
theorem cm_len {ts cs : List Int} {ps : Prs} (h : cs.length = ps.length) : (cmL ts cs ps).length = ps.length := by
  unfold cmL
  rw [List.length_map, List.length_zip]
  omega
end DV
namespace DV
open PySem PySem.Spec L2
/-! ### works done: the plain side -/
def gain (w : Int) (q : Int × Int) : Int := (if q.1 = w then 1 else 0) - (if q.2 = w then 1 else 0)
def stepL (ps : Prs) (now : List Int) (w : Int) : List Int := (now.zip ps).map fun x => x.1 + gain w x.2
/-- may w be done: no store that it empties is empty -/
def frB (ps : Prs) (now : List Int) (w : Int) : Bool := (now.zip ps).all fun x => !decide (x.2.2 = w) || decide (0 < x.1)
def rowL (cs : List Int) (ps : Prs) (row : List Int) : List Int := (cs.zip ps).map fun x => x.1 + (row.count x.2.1 : Int) - (row.count x.2.2 : Int)
theorem stepL_len {now : List Int} {ps : Prs} {w : Int} (h : now.length = ps.length) : (stepL ps now w).length = ps.length := by
  unfold stepL
  rw [List.length_map, List.length_zip]
  omega
theorem zip_map_l {f : Int × (Int × Int) → Int} : ∀ (cs : List Int) (ps : Prs), ((cs.zip ps).map f).zip ps = (cs.zip ps).map fun x => (f x, x.2)
  | [], _ => rfl
  | _ :: _, [] => rfl
  | c :: cs, p :: ps => by
    rw [List.zip_cons_cons, List.map_cons, List.map_cons, List.zip_cons_cons, zip_map_l cs ps]
theorem count_snoc {row : List Int} {w v : Int} : ((row ++ [w]).count v : Int) = (row.count v : Int) + (if v = w then 1 else 0) := by
  rw [List.count_append, List.count_singleton]
  by_cases h : v = w
  · subst h; simp
  · have : ¬ w = v := fun z => h z.symm
    simp [h, this]
/-- a row that can be done -/
inductive Fires (cs : List Int) (ps : Prs) : List Int → Prop
  | nil : Fires cs ps []
  | snoc {row : List Int} {w : Int} : Fires cs ps row → frB ps (rowL cs ps row) w = true → Fires cs ps (row ++ [w])
theorem frB_iff {ps : Prs} {cs row : List Int} {w : Int} : frB ps (rowL cs ps row) w = true ↔ ∀ x ∈ cs.zip ps, x.2.2 = w → 0 < x.1 + (row.count x.2.1 : Int) - (row.count x.2.2 : Int) := by
  unfold frB rowL
  rw [zip_map_l, List.all_map, List.all_eq_true]
  refine forall_congr' fun x => forall_congr' fun _ => ?_
  simp only [Function.comp, Bool.or_eq_true, Bool.not_eq_true', decide_eq_false_iff_not, decide_eq_true_eq]
  by_cases h : x.2.2 = w <;> simp [h]
theorem Fires.nonneg {cs : List Int} {ps : Prs} (h0 : ∀ c ∈ cs, 0 ≤ c) : ∀ {row : List Int}, Fires cs ps row → ∀ x ∈ cs.zip ps, 0 ≤ x.1 + (row.count x.2.1 : Int) - (row.count x.2.2 : Int)
  | _, .nil, x, hx => by
    have := h0 x.1 (List.of_mem_zip hx).1
    simp
    omega
  | _, .snoc (row := row) (w := w) F f, x, hx => by
    have h1 := F.nonneg h0 x hx
    have h2 := frB_iff.mp f x hx
    rw [count_snoc, count_snoc]
    by_cases e2 : x.2.2 = w
    · have := h2 e2
      rw [if_pos e2]
      by_cases e1 : x.2.1 = w
      · rw [if_pos e1]; omega
      · rw [if_neg e1]; omega
    · rw [if_neg e2]
      by_cases e1 : x.2.1 = w
      · rw [if_pos e1]; omega
      · rw [if_neg e1]; omega
/-- where a row can be done and has some work more often than ta, some such work may be done behind ta -/
theorem wanted {cs : List Int} {ps : Prs} {ta : List Int} : ∀ {row : List Int}, Fires cs ps row → (∃ v, ta.count v < row.count v) → ∃ w, w ∈ row ∧ ta.count w < row.count w ∧ frB ps (rowL cs ps ta) w = true
  | _, .nil, ⟨v, h⟩ => by simp at h
  | _, .snoc (row := row) (w := w) F f, hlt => by
    by_cases hc : ∃ v, ta.count v < row.count v
    · obtain ⟨u, u1, u2, u3⟩ := wanted F hc
      refine ⟨u, by simp [u1], ?_, u3⟩
      have := count_snoc (row := row) (w := w) (v := u)
      split at this <;> omega
    · have hle : ∀ v, row.count v ≤ ta.count v := fun v => by
        by_cases h : ta.count v < row.count v
        · exact absurd ⟨v, h⟩ hc
        · omega
      obtain ⟨v, hv⟩ := hlt
      have e := count_snoc (row := row) (w := w) (v := v)
      have hvw : v = w := by
        by_cases z : v = w
        · exact z
        · rw [if_neg z] at e
          have := hle v
          omega
      subst hvw
      rw [if_pos rfl] at e
      refine ⟨v, by simp, hv, frB_iff.mpr fun x hx hz => ?_⟩
      have h1 := frB_iff.mp f x hx hz
      have h2 := hle x.2.1
      have h3 := hle x.2.2
      rw [hz] at h1 h3 ⊢
      omega
/-- what may be done stays so when another work is done -/
theorem stays {cs : List Int} {ps : Prs} {ta : List Int} {w u : Int} (hu : frB ps (rowL cs ps ta) u = true) (hne : u ≠ w) : frB ps (rowL cs ps (ta ++ [w])) u = true := by
  refine frB_iff.mpr fun x hx hz => ?_
  have h1 := frB_iff.mp hu x hx hz
  rw [count_snoc, count_snoc, if_neg (show ¬ x.2.2 = w from fun z => hne (hz.symm.trans z))]
  split <;> omega
/-! ### _law_free -/
theorem zip_get {now : List Int} {ps : Prs} (h : now.length = ps.length) {i : Nat} (hi : i < ps.length) : (now.zip ps)[i]? = some (now[i]'(by omega), ps[i]) := by
  rw [List.getElem?_zip_eq_some]
  exact ⟨List.getElem?_eq_getElem _, List.getElem?_eq_getElem hi⟩
/-! ### _law_step -/
/-! ### counts -/
theorem NumD.cnt {d : D} {l : List Int} (h : NumD d l) {b : Int} : gCount d (.int b) = some (.val (.int (l.count b : Nat))) := by rcases h with rfl | rfl <;> simp
/-! ### barring, may, allowed -/
def alwL (many : Int) (ps : Prs) (now : List Int) : List Int := ((List.range many.toNat).map fun (i : Nat) => (i : Int)).filter (frB ps now)
/-! ### behind, done_row, done -/
theorem NumD.list {d : D} {l : List Int} (h : NumD d l) : gList [d] = some (.new (nums l)) := by rcases h with rfl | rfl <;> simp
theorem NumD.tuple {d : D} {l : List Int} (h : NumD d l) : gTuple [d] = some (.val (.tup (nums l))) := by rcases h with rfl | rfl <;> simp
def FF (ps : Prs) : List Int → List Int → Prop
  | _, [] => True
  | now, w :: r => (∀ c ∈ now, 0 ≤ c) ∧ frB ps now w = true ∧ FF ps (stepL ps now w) r
theorem Fires.nn {cs : List Int} {ps : Prs} (h0 : ∀ c ∈ cs, 0 ≤ c) {row : List Int} (F : Fires cs ps row) : ∀ c ∈ rowL cs ps row, 0 ≤ c := fun c hc => by
  obtain ⟨x, hx, rfl⟩ := List.mem_map.mp hc
  exact F.nonneg h0 x hx
/-! ### _law_walk -/
/-! ### _law_again -/
end DV
namespace DV
open PySem PySem.Spec L2
/-! ### equal to itself -/
mutual
theorem eqv_refl : ∀ (n : Nat) (d : D), d.shp n = true → PyData.eqv d.toP d.toP = true
  | _, .non, _ => rfl
  | _, .bl b, _ => by show (b == b) = true; simp
  | _, .int i, _ => by show (i == i) = true; simp
  | _, .str x, _ => by show (x == x) = true; simp
  | n + 1, .tup xs, h => eqvAll_refl n xs (List.all_eq_true.mp h)
  | n + 1, .lst xs, h => eqvAll_refl n xs (List.all_eq_true.mp h)
  | 0, .tup _, h => by cases h
  | 0, .lst _, h => by cases h
  | 0, .scr _, h => by cases h
  | _ + 1, .scr _, h => by cases h
  | 0, .obj _ _ _, h => by cases h
  | _ + 1, .obj _ _ _, h => by cases h
  | 0, .ref _, h => by cases h
  | _ + 1, .ref _, h => by cases h
  | 0, .exc _ _ _, h => by cases h
  | _ + 1, .exc _ _ _, h => by cases h
theorem eqvAll_refl : ∀ (n : Nat) (xs : List D), (∀ d ∈ xs, d.shp n = true) → PyData.eqvAll (toPs xs) (toPs xs) = true
  | _, [], _ => rfl
  | n, d :: ds, h => by
    show (PyData.eqv d.toP d.toP && PyData.eqvAll (toPs ds) (toPs ds)) = true
    rw [eqv_refl n d (h d List.mem_cons_self), eqvAll_refl n ds fun e he => h e (List.mem_cons_of_mem _ he)]
    rfl
end
theorem gNe_self {d : D} (h : d.shp 8 = true) : gNe d d = some (.val (.bl false)) := by
  rw [gNe_of h h, eqv_refl 8 d h]
  rfl
/-! ### a row led on behind another one -/
theorem Fires.take {cs : List Int} {ps : Prs} : ∀ {row : List Int}, Fires cs ps row → ∀ n, Fires cs ps (row.take n)
  | _, .nil, n => by rw [List.take_nil]; exact .nil
  | _, .snoc (row := row) (w := w) F f, n => by
    by_cases h : n ≤ row.length
    · rw [List.take_append_of_le_length h]
      exact F.take n
    · rw [List.take_of_length_le (by rw [List.length_append, List.length_singleton]; omega)]
      exact .snoc F f
end DV
namespace DV
open PySem PySem.Spec L2
/-! ### slices, running -/
@[simp] theorem oNo_eq {e : Ev} : oNo e = .ok none e := Eq.trans rfl rfl
def kO2 (e : Ev) (k : Int) : Out (Option Int) := .ok (some k) e
@[simp] theorem kO2_eq {e : Ev} {k : Int} : kO2 e k = .ok (some k) e := Eq.trans rfl rfl
def kO1 (e : Ev) (d : D) : Out (Option Int) := opt (dInt d) (kO2 e)
@[simp] theorem kO1_eq {e : Ev} {d : D} : kO1 e d = opt (dInt d) (kO2 e) := Eq.trans rfl rfl
def kO (r : R) (e : Ev) : Out (Option Int) := opt (r.read e) (kO1 e)
@[simp] theorem kO_eq {r : R} {e : Ev} : kO r e = opt (r.read e) (kO1 e) := Eq.trans rfl rfl
@[simp] theorem oSome_eq {s : SE} {e : Ev} : oSome s e = (s e).bind kO := by
  unfold oSome
  congr
  funext r e
  unfold kO
  cases h : r.read e with
  | none => rfl
  | some d => cases d <;> rfl
def kSl3 (l u : Option Int) (e : Ev) (d : D) : Out R := fin (gSl d l u) e
@[simp] theorem kSl3_eq {l u : Option Int} {e : Ev} {d : D} : kSl3 l u e d = fin (gSl d l u) e := Eq.trans rfl rfl
def kSl2 (r : R) (l u : Option Int) (e : Ev) : Out R := opt (r.read e) (kSl3 l u e)
@[simp] theorem kSl2_eq {r : R} {l u : Option Int} {e : Ev} : kSl2 r l u e = opt (r.read e) (kSl3 l u e) := Eq.trans rfl rfl
def kSl1 (r : R) (hi : SO) (l : Option Int) (e : Ev) : Out R := (hi e).bind (kSl2 r l)
@[simp] theorem kSl1_eq {r : R} {hi : SO} {l : Option Int} {e : Ev} : kSl1 r hi l e = (hi e).bind (kSl2 r l) := Eq.trans rfl rfl
def kSl0 (lo hi : SO) (r : R) (e : Ev) : Out R := (lo e).bind (kSl1 r hi)
@[simp] theorem kSl0_eq {lo hi : SO} {r : R} {e : Ev} : kSl0 lo hi r e = (lo e).bind (kSl1 r hi) := Eq.trans rfl rfl
@[simp] theorem vSl_eq {s : SE} {lo hi : SO} {e : Ev} : vSl s lo hi e = (s e).bind (kSl0 lo hi) := by
  unfold vSl
  congr
  funext r e
  unfold kSl0
  congr
  funext l e
  unfold kSl1
  congr
  funext u e
  unfold kSl2
  cases h : r.read e with
  | none => rfl
  | some d =>
    simp only [opt, kSl3]
    cases h2 : gSl d l u <;> rfl
@[simp] theorem gSl_tup {xs : List D} {l u : Option Int} : gSl (.tup xs) l u = some (.val (.tup (cutD xs l u))) := Eq.trans rfl rfl
@[simp] theorem gSl_lst {xs : List D} {l u : Option Int} : gSl (.lst xs) l u = some (.new (cutD xs l u)) := Eq.trans rfl rfl
@[simp] theorem shp_int' {n : Nat} {i : Int} : D.shp n (.int i) = true := by cases n <;> rfl
@[simp] theorem shp_bl' {n : Nat} {i : Bool} : D.shp n (.bl i) = true := by cases n <;> rfl
@[simp] theorem shp_non' {n : Nat} : D.shp n .non = true := by cases n <;> rfl
/-! ### rows one behind the other -/
theorem Fires.last {cs : List Int} {ps : Prs} {row r : List Int} {w : Int} (F : Fires cs ps r) (h : r = row ++ [w]) : frB ps (rowL cs ps row) w = true := by
  cases F with
  | nil => simp at h
  | snoc G f =>
    obtain ⟨h1, h2⟩ := List.append_inj' h rfl
    cases h2
    subst h1
    exact f
end DV
namespace DV
open PySem PySem.Spec L2 PySem.SeqAt
/-! ### the least, the greatest of a list or a tuple of numbers -/
section
variable {X : Cx}
end
/-! ### sorted -/
section
variable {prog : Program} {w : World} {A : Around} {s : Shared} {E : Value → Shared → Prop}
end
def leL (a b : List Int) : Bool := decide (a ≤ b)
def leI (a b : Int) : Bool := decide (a ≤ b)
end DV
namespace DV
open PySem PySem.Spec L2
/-! ### ways and rings, the plain side -/
def stP (ps : Prs) (i : Int) : Int × Int := (ps[i.toNat]?).getD (0, 0)
def okS (ps : Prs) (i : Int) : Prop := 0 ≤ i ∧ i < ps.length
theorem stP_mem {ps : Prs} {i : Int} (h : okS ps i) : stP ps i ∈ ps := by
  unfold stP
  have : i.toNat < ps.length := by have := h.1; have := h.2; omega
  rw [List.getElem?_eq_getElem this]
  exact List.getElem_mem this
def fillL (ps : Prs) (w : List Int) : List Int := w.map fun i => (stP ps i).1
def endW (ps : Prs) (u : Int) (w : List Int) : Int := match w.getLast? with
  | some i => (stP ps i).2
  | none => u
theorem endW_snoc {ps : Prs} {u i : Int} {w : List Int} : endW ps u (w ++ [i]) = (stP ps i).2 := by
  unfold endW
  rw [List.getLast?_concat]
theorem fill_snoc {ps : Prs} {i : Int} {w : List Int} : fillL ps (w ++ [i]) = fillL ps w ++ [(stP ps i).1] := by
  unfold fillL
  rw [List.map_append]
  rfl
theorem fill_app {ps : Prs} {a b : List Int} : fillL ps (a ++ b) = fillL ps a ++ fillL ps b := by
  unfold fillL
  rw [List.map_append]
theorem fill_len {ps : Prs} {a : List Int} : (fillL ps a).length = a.length := by
  unfold fillL
  rw [List.length_map]
/-- a way of stores from u to v -/
def isW (ps : Prs) : Int → List Int → Int → Prop
  | u, [], v => u = v
  | u, i :: r, v => okS ps i ∧ (stP ps i).1 = u ∧ isW ps (stP ps i).2 r v
theorem isW_app {ps : Prs} : ∀ {a b : List Int} {u v : Int}, isW ps u (a ++ b) v ↔ ∃ m, isW ps u a m ∧ isW ps m b v
  | [], b, u, v => ⟨fun h => ⟨u, rfl, h⟩, fun ⟨m, h1, h2⟩ => by cases h1; exact h2⟩
  | i :: a, b, u, v => by
    show (okS ps i ∧ (stP ps i).1 = u ∧ isW ps (stP ps i).2 (a ++ b) v) ↔ _
    rw [isW_app (a := a)]
    exact ⟨fun ⟨h1, h2, m, h3, h4⟩ => ⟨m, ⟨h1, h2, h3⟩, h4⟩, fun ⟨m, ⟨h1, h2, h3⟩, h4⟩ => ⟨h1, h2, m, h3, h4⟩⟩
theorem isW_end {ps : Prs} : ∀ {w : List Int} {u v : Int}, isW ps u w v → v = endW ps u w
  | [], _, _, h => h.symm
  | [i], u, v, h => h.2.2.symm
  | i :: j :: w, u, v, h => by
    have := isW_end (w := j :: w) h.2.2
    rw [this]
    unfold endW
    rfl
theorem isW_ok {ps : Prs} : ∀ {w : List Int} {u v : Int}, isW ps u w v → ∀ i ∈ w, okS ps i
  | [], _, _, _, _, h => by cases h
  | j :: w, _, _, h, i, hi => by
    rcases List.mem_cons.mp hi with e | e
    · rw [e]; exact h.1
    · exact isW_ok h.2.2 i e
theorem isW_snoc {ps : Prs} {w : List Int} {u v i : Int} : isW ps u (w ++ [i]) v ↔ isW ps u w (stP ps i).1 ∧ okS ps i ∧ (stP ps i).2 = v := by
  rw [isW_app]
  constructor
  · rintro ⟨m, h1, h2, h3, h4⟩
    subst h3
    exact ⟨h1, h2, h4⟩
  · rintro ⟨h1, h2, h3⟩
    exact ⟨_, h1, h2, rfl, h3⟩
/-- a ring begun at its least work, first -/
structure Ring0 (ps : Prs) (first : Int) (r : List Int) : Prop where
  ne : r ≠ []
  way : isW ps first r first
  nd : (fillL ps r).Nodup
  ge : ∀ x ∈ fillL ps r, first ≤ x
/-- a way gone on the search -/
structure Path (ps : Prs) (first : Int) (w : List Int) : Prop where
  way : isW ps first w (endW ps first w)
  nd : (fillL ps w ++ [endW ps first w]).Nodup
  ge : ∀ x ∈ fillL ps w ++ [endW ps first w], first ≤ x
theorem Path.nil {ps : Prs} {first : Int} : Path ps first [] := ⟨rfl, by simp [fillL], fun x hx => by
  simp [fillL, endW] at hx
  omega⟩
def idxL (n : Nat) : List Int := (List.range n).map fun (i : Nat) => (i : Int)
theorem mem_idx {n : Nat} {i : Int} : i ∈ idxL n ↔ 0 ≤ i ∧ i < n := by
  unfold idxL
  rw [List.mem_map]
  constructor
  · rintro ⟨j, hj, rfl⟩
    have := List.mem_range.mp hj
    omega
  · intro h
    exact ⟨i.toNat, List.mem_range.mpr (by omega), by omega⟩
theorem nodup_idx {n : Nat} : (idxL n).Nodup := range_nodup
/-- how often: once in what is found or among the ways still open -/
def opens (r : List Int) (S : List (List Int)) : Nat := S.countP fun w => w.isPrefixOf r
theorem pre_snoc {w t : List Int} {e i : Int} : (w ++ [i]).isPrefixOf (w ++ e :: t) = decide (i = e) := by
  induction w with
  | nil =>
    show (i == e && List.isPrefixOf [] t) = _
    cases t <;> (simp [List.isPrefixOf]; rfl)
  | cons x w ih =>
    show (x == x && (w ++ [i]).isPrefixOf (w ++ e :: t)) = _
    rw [ih]
    simp
theorem pre_of {w r : List Int} {i : Int} (h : (w ++ [i]).isPrefixOf r = true) : w.isPrefixOf r = true := by
  rw [List.isPrefixOf_iff_prefix] at h ⊢
  exact List.IsPrefix.trans (List.prefix_append w [i]) h
theorem opens_kids_no {w r : List Int} {l : List Int} (h : w.isPrefixOf r = false) : opens r (l.map fun i => w ++ [i]) = 0 := by
  unfold opens
  rw [List.countP_eq_zero]
  intro x hx
  obtain ⟨i, _, rfl⟩ := List.mem_map.mp hx
  intro h2
  rw [pre_of h2] at h
  cases h
theorem opens_kids {w t : List Int} {e : Int} {l : List Int} : opens (w ++ e :: t) (l.map fun i => w ++ [i]) = l.count e := by
  unfold opens
  rw [List.countP_map, List.count_eq_countP]
  refine List.countP_congr fun x _ => ?_
  simp only [Function.comp, pre_snoc]
  simp
theorem count_filt {l : List Int} (nd : l.Nodup) {c : Int → Bool} {e : Int} (h : e ∈ l) : (l.filter c).count e = if c e then 1 else 0 := by
  by_cases hc : c e = true
  · rw [if_pos hc, List.count_filter hc]
    rw [List.Nodup.count nd, if_pos h]
  · rw [if_neg hc, List.count_eq_zero]
    intro hx
    exact hc (List.mem_filter.mp hx).2
theorem pre_split {w r : List Int} (h : w.isPrefixOf r = true) : ∃ t, r = w ++ t := by
  obtain ⟨t, ht⟩ := List.isPrefixOf_iff_prefix.mp h
  exact ⟨t, ht.symm⟩
theorem opens_app {r : List Int} {S T : List (List Int)} : opens r (S ++ T) = opens r S + opens r T := List.countP_append
/-! ### how many ways -/
def outN (ps : Prs) (x : Int) : Nat := (ps.filter fun q => decide (q.1 = x)).length
def prodL (ps : Prs) (l : List Int) : Nat := l.foldr (fun x a => (1 + outN ps x) * a) 1
theorem prod_pos {ps : Prs} : ∀ l : List Int, 1 ≤ prodL ps l
  | [] => Nat.le_refl _
  | x :: l => by
    show 1 ≤ (1 + outN ps x) * prodL ps l
    exact Nat.mul_pos (by omega) (prod_pos l)
def sumN (ps : Prs) (l : List Int) : Nat := (l.map (outN ps)).sum
theorem sum_out : ∀ (ps : Prs) {l : List Int}, l.Nodup → sumN ps l ≤ ps.length
  | [], l, _ => by
    have : ∀ l : List Int, sumN [] l = 0 := fun l => by
      induction l with
      | nil => rfl
      | cons x l ih =>
        unfold sumN at ih ⊢
        rw [List.map_cons, List.sum_cons, ih]
        rfl
    rw [this]
    exact Nat.zero_le _
  | q :: ps, l, nd => by
    have ih := sum_out ps nd
    have : ∀ l : List Int, l.Nodup → sumN (q :: ps) l ≤ sumN ps l + 1 ∧ (q.1 ∉ l → sumN (q :: ps) l = sumN ps l) := by
      intro l
      induction l with
      | nil => intro _; exact ⟨Nat.zero_le _, fun _ => rfl⟩
      | cons x l ih2 =>
        intro nd
        rw [List.nodup_cons] at nd
        obtain ⟨i1, i2⟩ := ih2 nd.2
        have e : ∀ ps : Prs, sumN ps (x :: l) = outN ps x + sumN ps l := fun ps => by
          unfold sumN
          rw [List.map_cons, List.sum_cons]
        rw [e, e]
        unfold outN
        by_cases h : q.1 = x
        · rw [List.filter_cons_of_pos (by simp [h]), List.length_cons, i2 (by rw [h]; exact nd.1)]
          exact ⟨by omega, fun z => absurd (by rw [h]; exact List.mem_cons_self) z⟩
        · rw [List.filter_cons_of_neg (by simp [h])]
          exact ⟨by omega, fun z => by rw [i2 fun m => z (List.mem_cons_of_mem _ m)]⟩
    have := (this l nd).1
    rw [List.length_cons]
    omega
theorem prod_pow {ps : Prs} : ∀ l : List Int, prodL ps l ≤ 2 ^ sumN ps l
  | [] => Nat.le_refl _
  | x :: l => by
    have ih := prod_pow l (ps := ps)
    have e : sumN ps (x :: l) = outN ps x + sumN ps l := by
      unfold sumN
      rw [List.map_cons, List.sum_cons]
    rw [e, Nat.pow_add]
    show (1 + outN ps x) * prodL ps l ≤ _
    refine Nat.mul_le_mul ?_ ih
    have : ∀ n : Nat, 1 + n ≤ 2 ^ n := fun n => by
      induction n with
      | zero => exact Nat.le_refl _
      | succ n ih => rw [Nat.pow_succ]; omega
    exact this _
end DV
namespace DV
open PySem PySem.Spec L2
/-! ### rings as they are told -/
def rotTo (h : Int) (r : List Int) : List Int := r.dropWhile (fun x => !decide (x = h)) ++ r.takeWhile fun x => !decide (x = h)
theorem dropW_app {h : Int} : ∀ {y t : List Int}, h ∉ y → (y ++ h :: t).dropWhile (fun x => !decide (x = h)) = h :: t
  | [], t, _ => by simp [List.dropWhile]
  | z :: y, t, hn => by
    have : z ≠ h := fun e => hn (e ▸ List.mem_cons_self)
    rw [List.cons_append, List.dropWhile_cons_of_pos (by simp [this])]
    exact dropW_app fun m => hn (List.mem_cons_of_mem _ m)
theorem takeW_app {h : Int} : ∀ {y t : List Int}, h ∉ y → (y ++ h :: t).takeWhile (fun x => !decide (x = h)) = y
  | [], t, _ => by simp [List.takeWhile]
  | z :: y, t, hn => by
    have : z ≠ h := fun e => hn (e ▸ List.mem_cons_self)
    rw [List.cons_append, List.takeWhile_cons_of_pos (by simp [this]), takeW_app fun m => hn (List.mem_cons_of_mem _ m)]
theorem rotTo_mid {h : Int} {y t : List Int} (hn : h ∉ y) : rotTo h (y ++ h :: t) = h :: t ++ y := by
  unfold rotTo
  rw [dropW_app hn, takeW_app hn]
theorem mem_split' {h : Int} {r : List Int} (hm : h ∈ r) : ∃ y t, r = y ++ h :: t ∧ h ∉ y := by
  induction r with
  | nil => cases hm
  | cons z r ih =>
    by_cases e : z = h
    · exact ⟨[], r, by rw [e]; rfl, by simp⟩
    · have : h ∈ r := by
        rcases List.mem_cons.mp hm with q | q
        · exact absurd q.symm e
        · exact q
      obtain ⟨y, t, rfl, hn⟩ := ih this
      exact ⟨z :: y, t, rfl, fun m => by
        rcases List.mem_cons.mp m with q | q
        · exact e q.symm
        · exact hn q⟩
theorem rotTo_mem {h v : Int} {r : List Int} (hm : h ∈ r) : v ∈ rotTo h r ↔ v ∈ r := by
  obtain ⟨y, t, rfl, hn⟩ := mem_split' hm
  rw [rotTo_mid hn]
  simp
  constructor <;> (intro q; rcases q with q | q | q <;> simp [q])
def minL : List Int → Int
  | [] => 0
  | x :: r => r.foldl min x
theorem foldl_min : ∀ (r : List Int) (x : Int), (r.foldl min x ∈ x :: r) ∧ ∀ y ∈ x :: r, r.foldl min x ≤ y
  | [], x => ⟨by simp, fun y hy => by simp at hy; simp [hy]⟩
  | z :: r, x => by
    obtain ⟨h1, h2⟩ := foldl_min r (min x z)
    rw [List.foldl_cons]
    refine ⟨?_, fun y hy => ?_⟩
    · rcases List.mem_cons.mp h1 with h | h
      · rw [h]
        by_cases q : x ≤ z
        · rw [Int.min_eq_left q]; simp
        · rw [Int.min_eq_right (by omega)]; simp
      · simp [h]
    · have h3 := h2 (min x z) List.mem_cons_self
      rcases List.mem_cons.mp hy with e | hy
      · subst e; omega
      · rcases List.mem_cons.mp hy with e | hy
        · subst e; omega
        · exact h2 y (List.mem_cons_of_mem _ hy)
theorem minL_mem {r : List Int} (h : r ≠ []) : minL r ∈ r := by
  cases r with
  | nil => exact absurd rfl h
  | cons x r => exact (foldl_min r x).1
theorem minL_le {r : List Int} {y : Int} (h : y ∈ r) : minL r ≤ y := by
  cases r with
  | nil => cases h
  | cons x r => exact (foldl_min r x).2 y h
def begunL (r : List Int) : List Int := rotTo (minL r) r
structure IsRing (ps : Prs) (r : List Int) : Prop where
  ne : r ≠ []
  way : ∃ u, isW ps u r u
  nd : (fillL ps r).Nodup
  least : ∀ i, r.head? = some i → ∀ x ∈ r, i ≤ x
theorem nodup_of_fill {ps : Prs} {r : List Int} (h : (fillL ps r).Nodup) : r.Nodup := by
  unfold fillL at h
  exact List.Pairwise.imp (fun hab e => hab (by rw [e])) (List.pairwise_map.mp h)
theorem rot_way {ps : Prs} {x y : List Int} (h : ∃ u, isW ps u (x ++ y) u) : ∃ u, isW ps u (y ++ x) u := by
  obtain ⟨u, h⟩ := h
  obtain ⟨m, h1, h2⟩ := isW_app.mp h
  exact ⟨m, isW_app.mpr ⟨u, h2, h1⟩⟩
theorem rot_nd {ps : Prs} {x y : List Int} (h : (fillL ps (x ++ y)).Nodup) : (fillL ps (y ++ x)).Nodup := by
  rw [fill_app] at h ⊢
  exact (List.perm_append_comm.nodup_iff).mp h
/-! ### sorted without twins -/
theorem uniq_sorted {α : Type} {lt : α → α → Prop} (irr : ∀ a, ¬ lt a a) (tr : ∀ a b c, lt a b → lt b c → lt a c) : ∀ {l m : List α}, l.Pairwise lt → m.Pairwise lt → (∀ a, a ∈ l ↔ a ∈ m) → l = m
  | [], [], _, _, _ => rfl
  | [], b :: m, _, _, h => absurd ((h b).mpr List.mem_cons_self) (by simp)
  | a :: l, [], _, _, h => absurd ((h a).mp List.mem_cons_self) (by simp)
  | a :: l, b :: m, hl, hm, h => by
    rw [List.pairwise_cons] at hl hm
    have hab : a = b := by
      rcases List.mem_cons.mp ((h a).mp List.mem_cons_self) with e | e
      · exact e
      · rcases List.mem_cons.mp ((h b).mpr List.mem_cons_self) with f | f
        · exact f.symm
        · exact absurd (tr _ _ _ (hm.1 a e) (hl.1 b f)) (irr b)
    subst hab
    have : l = m := uniq_sorted irr tr hl.2 hm.2 fun c => by
      constructor
      · intro hc
        rcases List.mem_cons.mp ((h c).mp (List.mem_cons_of_mem _ hc)) with e | e
        · subst e; exact absurd (hl.1 c hc) (irr c)
        · exact e
      · intro hc
        rcases List.mem_cons.mp ((h c).mpr (List.mem_cons_of_mem _ hc)) with e | e
        · subst e; exact absurd (hm.1 c hc) (irr c)
        · exact e
    rw [this]
theorem sort_strict {l : List (List Int)} (nd : l.Nodup) : (l.mergeSort leL).Pairwise (· < ·) := by
  have h1 : (l.mergeSort leL).Pairwise fun a b => leL a b = true := List.pairwise_mergeSort (fun a b c h1 h2 => by
    unfold leL at *
    rw [decide_eq_true_eq] at *
    exact List.le_trans h1 h2) (fun a b => by
    unfold leL
    rw [Bool.or_eq_true, decide_eq_true_eq, decide_eq_true_eq]
    exact List.le_total a b) l
  have h2 : (l.mergeSort leL).Nodup := ((List.mergeSort_perm l leL).nodup_iff).mpr nd
  refine (h1.and h2).imp fun {a b} ⟨h3, h4⟩ => ?_
  unfold leL at h3
  rw [decide_eq_true_eq] at h3
  rcases List.le_iff_lt_or_eq.mp h3 with h | h
  · exact h
  · exact absurd h h4
/-- the rings of a net, sorted, once each -/
structure RingsOf (ps : Prs) (L : List (List Int)) : Prop where
  sorted : L.Pairwise (· < ·)
  mem : ∀ r, r ∈ L ↔ IsRing ps r
theorem RingsOf.uniq {ps : Prs} {L M : List (List Int)} (h : RingsOf ps L) (g : RingsOf ps M) : L = M :=
  uniq_sorted (lt := fun a b : List Int => a < b) (fun a => List.lt_irrefl a) (fun a b c h1 h2 => List.lt_trans h1 h2) h.sorted g.sorted fun a => (h.mem a).trans (g.mem a).symm
open Classical in
noncomputable def ringsL (ps : Prs) : List (List Int) := if h : ∃ L, RingsOf ps L then choose h else []
theorem RingsOf.is {ps : Prs} {L : List (List Int)} (h : RingsOf ps L) : ringsL ps = L := by
  have hx : ∃ L, RingsOf ps L := ⟨L, h⟩
  unfold ringsL
  rw [dif_pos hx]
  exact (Classical.choose_spec hx).uniq h
theorem IsRing.ok {ps : Prs} {r : List Int} (R : IsRing ps r) : ∀ i ∈ r, okS ps i := by
  obtain ⟨u, hu⟩ := R.way
  exact isW_ok hu
theorem IsRing.len {ps : Prs} {many : Int} {r : List Int} (R : IsRing ps r) (inn : ∀ q ∈ ps, 0 ≤ q.1 ∧ q.1 < many ∧ 0 ≤ q.2 ∧ q.2 < many) (m0 : 0 ≤ many) : (r.length : Int) ≤ many := by
  have := nodup_len R.nd (many := many) (fun v hv => by
    unfold fillL at hv
    obtain ⟨i, hi, rfl⟩ := List.mem_map.mp hv
    have := inn _ (stP_mem (R.ok i hi))
    exact ⟨this.1, this.2.1⟩) m0
  rw [fill_len] at this
  exact this
/-- what has been found when the least works below n were gone through -/
structure Found (ps : Prs) (n : Nat) (L : List (List Int)) : Prop where
  nd : L.Nodup
  mem : ∀ r, r ∈ L ↔ IsRing ps r ∧ ∃ x ∈ fillL ps r, x < (n : Int)
/-! ### sums -/
def sumR (cs r : List Int) : Int := (r.map fun i => nameF cs i).sum
end DV
namespace DV
open PySem PySem.Spec L2
/-! ### sums stay -/
theorem nameF_get {l : List Int} {i : Int} {c : Int} (h : l[i.toNat]? = some c) : nameF l i = c := by
  unfold nameF
  rw [h]
  rfl
theorem zip_at {cs : List Int} {ps : Prs} (hl : cs.length = ps.length) {i : Int} (h : okS ps i) : (cs.zip ps)[i.toNat]? = some (nameF cs i, stP ps i) := by
  have h1 : i.toNat < ps.length := by have := h.1; have := h.2; omega
  have h2 : i.toNat < cs.length := by omega
  rw [zip_get hl h1]
  unfold nameF stP
  rw [List.getElem?_eq_getElem h1, List.getElem?_eq_getElem h2]
  rfl
theorem cm_at {ts cs : List Int} {ps : Prs} (hl : cs.length = ps.length) {i : Int} (h : okS ps i) : nameF (cmL ts cs ps) i = nameF cs i + nameF ts (stP ps i).1 - nameF ts (stP ps i).2 := by
  refine nameF_get ?_
  unfold cmL
  rw [List.getElem?_map, zip_at hl h]
  rfl
theorem step_at {cs : List Int} {ps : Prs} {w : Int} (hl : cs.length = ps.length) {i : Int} (h : okS ps i) : nameF (stepL ps cs w) i = nameF cs i + gain w (stP ps i) := by
  refine nameF_get ?_
  unfold stepL
  rw [List.getElem?_map, zip_at hl h]
  rfl
theorem tele {ps : Prs} (f g : Int → Int) (h : Int → Int) : ∀ {r : List Int} {u v : Int}, isW ps u r v → (∀ i ∈ r, g i = h i + f (stP ps i).1 - f (stP ps i).2) → (r.map g).sum = (r.map h).sum + f u - f v
  | [], u, v, e, _ => by
    cases e
    simp
  | i :: r, u, v, e, k => by
    have ih := tele f g h e.2.2 fun j hj => k j (List.mem_cons_of_mem _ hj)
    rw [List.map_cons, List.sum_cons, List.map_cons, List.sum_cons, ih, k i List.mem_cons_self, e.2.1]
    omega
/-! ### a way that comes back bears a ring -/
theorem twins {f : Int → Int} : ∀ {r : List Int}, ¬ (r.map f).Nodup → ∃ a i b j c, r = a ++ i :: b ++ j :: c ∧ f i = f j
  | [], h => absurd List.Pairwise.nil h
  | x :: r, h => by
    rw [List.map_cons, List.nodup_cons] at h
    by_cases hx : f x ∈ r.map f
    · obtain ⟨j, hj, e⟩ := List.mem_map.mp hx
      obtain ⟨b, c, rfl⟩ := List.append_of_mem hj
      exact ⟨[], x, b, j, c, rfl, e.symm⟩
    · obtain ⟨a, i, b, j, c, rfl, e⟩ := twins (fun nd => h ⟨hx, nd⟩)
      exact ⟨x :: a, i, b, j, c, rfl, e⟩
theorem ring_of_closed {ps : Prs} {u : Int} {r : List Int} (hne : r ≠ []) (hw : isW ps u r u) (nd : (fillL ps r).Nodup) : IsRing ps (begunL r) ∧ ∀ v, v ∈ begunL r ↔ v ∈ r := by
  have hm := minL_mem hne
  obtain ⟨y, t, e, hn⟩ := mem_split' hm
  have hb : begunL r = minL r :: t ++ y := by
    have := rotTo_mid (t := t) hn
    unfold begunL
    rw [← e] at this
    exact this
  refine ⟨⟨by rw [hb]; simp, ?_, ?_, fun j hj x hx => ?_⟩, fun v => rotTo_mem hm⟩
  · rw [hb]
    exact rot_way ⟨u, by rw [← e]; exact hw⟩
  · rw [hb]
    exact rot_nd (by rw [← e]; exact nd)
  · rw [hb] at hj
    have : minL r = j := by simpa using hj
    rw [← this]
    exact minL_le ((rotTo_mem hm).mp hx)
theorem closed_ring {ps : Prs} : ∀ (n : Nat) {r : List Int} {u : Int}, r.length ≤ n → r ≠ [] → isW ps u r u → ∃ R, IsRing ps R ∧ ∀ v ∈ R, v ∈ r
  | 0, r, u, h, hne, _ => by
    cases r with
    | nil => exact absurd rfl hne
    | cons x r => simp at h
  | n + 1, r, u, h, hne, hw => by
    by_cases nd : (fillL ps r).Nodup
    · obtain ⟨R, hR⟩ := ring_of_closed hne hw nd
      exact ⟨_, R, fun v hv => (hR v).mp hv⟩
    · obtain ⟨a, i, b, j, c, e, hf⟩ := twins nd
      subst e
      rw [List.append_assoc] at hw
      obtain ⟨m, h1, h2⟩ := isW_app.mp hw
      obtain ⟨m2, h3, h4⟩ := isW_app.mp h2
      have e1 : (stP ps i).1 = m := h3.2.1
      have e2 : (stP ps j).1 = m2 := h4.2.1
      have e3 : m2 = m := by rw [← e1, ← e2, hf]
      subst e3
      obtain ⟨R, hR, hv⟩ := closed_ring n (r := i :: b) (by simp at h ⊢; omega) (by simp) h3
      exact ⟨R, hR, fun v hv2 => by
        have := hv v hv2
        simp only [List.mem_append]
        exact .inl (.inr this)⟩
theorem mem_store {ps : Prs} {q : Int × Int} (h : q ∈ ps) : ∃ i, okS ps i ∧ stP ps i = q := by
  obtain ⟨n, hn, e⟩ := List.getElem_of_mem h
  refine ⟨(n : Int), ⟨by omega, by omega⟩, ?_⟩
  unfold stP
  rw [Int.toNat_natCast, List.getElem?_eq_getElem hn, e]
  rfl
end DV
namespace DV
open PySem PySem.Spec L2
/-! ### wanted works: never stuck -/
structure Live (many : Int) (ps : Prs) (now left : List Int) : Prop where
  nl : now.length = ps.length
  ll : (left.length : Int) = many
  n0 : ∀ c ∈ now, 0 ≤ c
  l0 : ∀ c ∈ left, 0 ≤ c
  ends : ∀ i, okS ps i → 0 ≤ nameF now i + nameF left (stP ps i).1 - nameF left (stP ps i).2
  rings : ∀ R, IsRing ps R → (∀ i ∈ R, 0 < nameF left (stP ps i).1) → 0 < sumR now R
def pickL (many : Int) (ps : Prs) (now left : List Int) : List Int := (idxL many.toNat).filter fun w => decide (0 < nameF left w) && frB ps now w
theorem nameF_mem {l : List Int} {i : Int} (h0 : 0 ≤ i) (h1 : i < l.length) : nameF l i ∈ l := by
  have : i.toNat < l.length := by omega
  unfold nameF
  rw [List.getElem?_eq_getElem this]
  exact List.getElem_mem this
theorem frB_no {ps : Prs} {now : List Int} {w : Int} (hl : now.length = ps.length) (n0 : ∀ c ∈ now, 0 ≤ c) (h : frB ps now w = false) : ∃ i, okS ps i ∧ (stP ps i).2 = w ∧ nameF now i = 0 := by
  unfold frB at h
  rw [List.all_eq_false] at h
  obtain ⟨x, hx, h2⟩ := h
  obtain ⟨n, hn, e⟩ := List.getElem_of_mem hx
  have hn1 : n < ps.length := by rw [List.length_zip] at hn; omega
  have ok : okS ps (n : Int) := ⟨by omega, by omega⟩
  have hz := zip_at hl ok
  rw [Int.toNat_natCast, List.getElem?_eq_getElem hn, e] at hz
  have hz := Option.some.inj hz
  subst hz
  simp at h2
  have := n0 _ (nameF_mem (l := now) (i := (n : Int)) (by omega) (by omega))
  exact ⟨n, ok, h2.1, by omega⟩
theorem frB_at {ps : Prs} {now : List Int} {w : Int} (hl : now.length = ps.length) (h : frB ps now w = true) {i : Int} (ok : okS ps i) (e : (stP ps i).2 = w) : 0 < nameF now i := by
  unfold frB at h
  have hm := List.mem_of_getElem? (zip_at hl ok)
  have := List.all_eq_true.mp h _ hm
  simp [e] at this
  exact this
theorem chain_back {ps : Prs} {U : Int → Prop} {E : Int → Prop} (h : ∀ v, U v → ∃ i, okS ps i ∧ (stP ps i).2 = v ∧ E i ∧ U (stP ps i).1) : ∀ (n : Nat) (v : Int), U v → ∃ r x, isW ps x r v ∧ r.length = n ∧ ∀ i ∈ r, E i ∧ U (stP ps i).1
  | 0, v, _ => ⟨[], v, rfl, rfl, by simp⟩
  | n + 1, v, hv => by
    obtain ⟨i, ok, e, hE, hU⟩ := h v hv
    obtain ⟨r, x, hw, hl, hr⟩ := chain_back h n _ hU
    refine ⟨r ++ [i], x, isW_snoc.mpr ⟨hw, ok, e⟩, by simp [hl], fun j hj => ?_⟩
    rcases List.mem_append.mp hj with hj | hj
    · exact hr j hj
    · rw [List.mem_singleton] at hj
      subst hj
      exact ⟨hE, hU⟩
/-- works each of which is filled from such a one: there is a ring of them -/
theorem chain_ring {many : Int} {ps : Prs} {U : Int → Prop} {E : Int → Prop} (inn : ∀ q ∈ ps, 0 ≤ q.1 ∧ q.1 < many ∧ 0 ≤ q.2 ∧ q.2 < many) (m0 : 0 ≤ many) (h : ∀ v, U v → ∃ i, okS ps i ∧ (stP ps i).2 = v ∧ E i ∧ U (stP ps i).1) {v : Int} (hv : U v) : ∃ R, IsRing ps R ∧ ∀ i ∈ R, E i ∧ U (stP ps i).1 := by
  obtain ⟨r, x, hw, hl, hr⟩ := chain_back h (many.toNat + 1) v hv
  have hnd : ¬ (fillL ps r).Nodup := fun nd => by
    have := nodup_len nd (many := many) (fun u hu => by
      unfold fillL at hu
      obtain ⟨i, hi, rfl⟩ := List.mem_map.mp hu
      have := inn _ (stP_mem (isW_ok hw i hi))
      exact ⟨this.1, this.2.1⟩) m0
    rw [fill_len, hl] at this
    omega
  obtain ⟨a, i, b, j, c, e, hf⟩ := twins hnd
  subst e
  rw [List.append_assoc] at hw
  obtain ⟨m, h1, h2⟩ := isW_app.mp hw
  obtain ⟨m2, h3, h4⟩ := isW_app.mp h2
  have e1 : (stP ps i).1 = m := h3.2.1
  have e2 : (stP ps j).1 = m2 := h4.2.1
  have e3 : m2 = m := by rw [← e1, ← e2, hf]
  subst e3
  obtain ⟨R, hR, hv⟩ := closed_ring (i :: b).length (r := i :: b) (Nat.le_refl _) (by simp) h3
  exact ⟨R, hR, fun v hv2 => hr v (by
    have := hv v hv2
    simp only [List.mem_append]
    exact .inl (.inr this))⟩
theorem sumR_zero {now R : List Int} (h : ∀ i ∈ R, nameF now i = 0) : sumR now R = 0 := by
  unfold sumR
  induction R with
  | nil => rfl
  | cons i R ih =>
    rw [List.map_cons, List.sum_cons, ih fun j hj => h j (List.mem_cons_of_mem _ hj), h i List.mem_cons_self]
    rfl
theorem mem_pick {many : Int} {ps : Prs} {now left : List Int} {w : Int} : w ∈ pickL many ps now left ↔ 0 ≤ w ∧ w < many ∧ 0 < nameF left w ∧ frB ps now w = true := by
  unfold pickL
  rw [List.mem_filter, mem_idx, Bool.and_eq_true, decide_eq_true_eq]
  constructor
  · rintro ⟨⟨a, b⟩, c, d⟩; exact ⟨a, by omega, c, d⟩
  · rintro ⟨a, b, c, d⟩; exact ⟨⟨a, by omega⟩, c, d⟩
theorem Live.pick {many : Int} {ps : Prs} {now left : List Int} (L : Live many ps now left) (inn : ∀ q ∈ ps, 0 ≤ q.1 ∧ q.1 < many ∧ 0 ≤ q.2 ∧ q.2 < many) (m0 : 0 ≤ many) {v : Int} (h0 : 0 ≤ v) (h1 : v < many) (hv : 0 < nameF left v) : pickL many ps now left ≠ [] := by
  intro hn
  have hno : ∀ w, 0 ≤ w → w < many → 0 < nameF left w → frB ps now w = false := fun w a b c => by
    cases e : frB ps now w with
    | false => rfl
    | true =>
      have := mem_pick.mpr ⟨a, b, c, e⟩
      rw [hn] at this
      cases this
  obtain ⟨R, hR, hE⟩ := chain_ring (U := fun w => 0 ≤ w ∧ w < many ∧ 0 < nameF left w) (E := fun i => nameF now i = 0) inn m0 (fun w ⟨a, b, c⟩ => by
    obtain ⟨i, ok, e, z⟩ := frB_no L.nl L.n0 (hno w a b c)
    have := L.ends i ok
    rw [e, z] at this
    have hi := inn _ (stP_mem ok)
    exact ⟨i, ok, e, z, hi.1, hi.2.1, by omega⟩) (v := v) ⟨h0, h1, hv⟩
  have := L.rings R hR fun i hi => (hE i hi).2.2.2
  rw [sumR_zero fun i hi => (hE i hi).1] at this
  omega
theorem sumR_step {cs : List Int} {ps : Prs} {w : Int} {r : List Int} (hl : cs.length = ps.length) (R : IsRing ps r) : sumR (stepL ps cs w) r = sumR cs r := by
  obtain ⟨u, hu⟩ := R.way
  have := tele (fun x => if x = w then (1 : Int) else 0) (fun i => nameF (stepL ps cs w) i) (fun i => nameF cs i) hu fun i hi => by
    rw [step_at hl (R.ok i hi)]
    unfold gain
    omega
  unfold sumR
  omega
theorem nameF_set {l : List Int} {w v x : Int} (h0 : 0 ≤ w) (h1 : w < l.length) (h2 : 0 ≤ v) : nameF (l.set w.toNat x) v = if v = w then x else nameF l v := by
  unfold nameF
  rw [List.getElem?_set]
  by_cases e : v = w
  · subst e
    rw [if_pos rfl, if_pos rfl, if_pos (by omega)]
    rfl
  · rw [if_neg (by omega), if_neg e]
theorem nn_of {l : List Int} (h : ∀ i : Int, 0 ≤ i → i < l.length → 0 ≤ nameF l i) : ∀ c ∈ l, 0 ≤ c := fun c hc => by
  obtain ⟨n, hn, e⟩ := List.getElem_of_mem hc
  have := h n (by omega) (by omega)
  rw [nameF_get (c := c) (by rw [Int.toNat_natCast, List.getElem?_eq_getElem hn, e])] at this
  exact this
def lessL (left : List Int) (w : Int) : List Int := left.set w.toNat (nameF left w - 1)
theorem Live.step {many : Int} {ps : Prs} {now left : List Int} {w : Int} (L : Live many ps now left) (inn : ∀ q ∈ ps, 0 ≤ q.1 ∧ q.1 < many ∧ 0 ≤ q.2 ∧ q.2 < many) (h : w ∈ pickL many ps now left) : Live many ps (stepL ps now w) (lessL left w) := by
  obtain ⟨h0, h1, h2, h3⟩ := mem_pick.mp h
  have hll := L.ll
  have hset : ∀ v, 0 ≤ v → nameF (lessL left w) v = if v = w then nameF left w - 1 else nameF left v := fun v hv => nameF_set h0 (by omega) hv
  refine ⟨stepL_len L.nl, by unfold lessL; rw [List.length_set]; exact hll, nn_of fun i i0 i1 => ?_, nn_of fun i i0 i1 => ?_, fun i ok => ?_, fun R hR hW => ?_⟩
  · rw [stepL_len L.nl] at i1
    have ok : okS ps i := ⟨i0, i1⟩
    rw [step_at L.nl ok]
    have hn := L.n0 _ (nameF_mem (l := now) i0 (by rw [L.nl]; exact i1))
    unfold gain
    by_cases e : (stP ps i).2 = w
    · have := frB_at L.nl h3 ok e
      rw [if_pos e]
      split <;> omega
    · rw [if_neg e]
      split <;> omega
  · unfold lessL at i1
    rw [List.length_set] at i1
    rw [hset i i0]
    have := L.l0 _ (nameF_mem (l := left) i0 i1)
    split <;> omega
  · have hi := inn _ (stP_mem ok)
    have := L.ends i ok
    rw [step_at L.nl ok, hset _ hi.1, hset _ hi.2.2.1]
    unfold gain
    split <;> split <;> simp_all <;> omega
  · rw [sumR_step L.nl hR]
    refine L.rings R hR fun i hi => ?_
    have := hW i hi
    have hin := inn _ (stP_mem (hR.ok i hi))
    rw [hset _ hin.1] at this
    split at this
    · rename_i e; rw [e]; exact h2
    · exact this
/-- each time the least work still wanted that may be done -/
def greedyL (many : Int) (ps : Prs) : Nat → List Int → List Int → List Int
  | 0, _, _ => []
  | n + 1, now, left => match pickL many ps now left with
    | [] => []
    | w :: _ => w :: greedyL many ps n (stepL ps now w) (lessL left w)
theorem sum_nn : ∀ {l : List Int}, (∀ c ∈ l, 0 ≤ c) → 0 ≤ l.sum
  | [], _ => Int.le_refl _
  | b :: l, h => by
    rw [List.sum_cons]
    have := h b List.mem_cons_self
    have := sum_nn fun c hc => h c (List.mem_cons_of_mem _ hc)
    omega
theorem Live.more {many : Int} {ps : Prs} {now left : List Int} (L : Live many ps now left) (inn : ∀ q ∈ ps, 0 ≤ q.1 ∧ q.1 < many ∧ 0 ≤ q.2 ∧ q.2 < many) (m0 : 0 ≤ many) (h : 0 < left.sum) : ∃ w r, pickL many ps now left = w :: r := by
  have hx : ∃ v, 0 ≤ v ∧ v < many ∧ 0 < nameF left v := by
    refine Classical.byContradiction fun hn => ?_
    have hz : ∀ c ∈ left, c = 0 := fun c hc => by
      obtain ⟨n, hk, e⟩ := List.getElem_of_mem hc
      have hc0 := L.l0 c hc
      have hll := L.ll
      have : nameF left n = c := nameF_get (by rw [Int.toNat_natCast, List.getElem?_eq_getElem hk, e])
      refine Classical.byContradiction fun q => hn ⟨n, by omega, by omega, by omega⟩
    have : left.sum = 0 := by
      have : ∀ {l : List Int}, (∀ c ∈ l, c = 0) → l.sum = 0 := fun {l} h => by
        induction l with
        | nil => rfl
        | cons a l ih => rw [List.sum_cons, h a List.mem_cons_self, ih fun c hc => h c (List.mem_cons_of_mem _ hc)]; rfl
      exact this hz
    omega
  obtain ⟨v, a, b, c⟩ := hx
  have := L.pick inn m0 a b c
  cases e : pickL many ps now left with
  | nil => exact absurd e this
  | cons w r => exact ⟨w, r, rfl⟩
end DV
namespace DV
open PySem PySem.Spec L2
theorem ixN_in {n : Nat} {k : Int} (h0 : 0 ≤ k) (h1 : k < n) : ixN n k = some k.toNat := by
  unfold ixN
  rw [if_pos h0, if_pos h1]
/-! ### a loop that looks for the first -/
/-! ### a ring without coins -/
def optD (o : Option (List Int)) : D := match o with
  | some r => .tup (nums r)
  | none => .non
end DV
namespace DV
open PySem PySem.Spec L2
/-! ### works that stay dry -/
end DV
namespace DV
open PySem PySem.Spec L2
structure Side where
  many : Int
  ps : Prs
  cs : List Int
structure Side.Good (t : Side) : Prop where
  str : Str0 t.many t.ps
  l0 : 2 ≤ t.many
  l1 : t.many ≤ 10
  hl : t.ps.length ≤ 16
  cp : t.cs.length = t.ps.length
  nn : ∀ c ∈ t.cs, 0 ≤ c ∧ c < 21
def Side.d (t : Side) : D := .tup [netD t.many t.ps, .int t.many, .lst (t.ps.map pd), .tup (nums t.cs)]
end DV
namespace DV
open PySem PySem.Spec L2
@[simp] theorem gEq_bl {a b : Bool} : gEq (.bl a) (.bl b) = some (.val (.bl (decide (a = b)))) := by
  rw [gEq_of rfl rfl]
  refine congrArg (fun t => some (R.val (D.bl t))) ?_
  show (a == b) = _
  cases a <;> cases b <;> rfl
@[simp] theorem gNe_bl {a b : Bool} : gNe (.bl a) (.bl b) = some (.val (.bl (decide (a ≠ b)))) := by
  rw [gNe_of rfl rfl]
  refine congrArg (fun t => some (R.val (D.bl t))) ?_
  show (!(a == b)) = _
  cases a <;> cases b <;> rfl
end DV
namespace DV
open PySem PySem.Spec L2
/-! ### a dict of one's own in a slot -/
def keyD : D → Option L2.Key
  | .int i => some (.inl i)
  | .str s => some (.inr s)
  | _ => none
def valKD : List L2.Key → List D → L2.Key → Option D
  | k0 :: ks, x :: xs, k => if k0 = k then some x else valKD ks xs k
  | _, _, _ => none
def putKD (ks : List L2.Key) (xs : List D) (k : L2.Key) (d : D) : List L2.Key × List D :=
  if (valKD ks xs k).isSome = true then (ks, List.zipWith (fun k0 x => if k0 = k then d else x) ks xs) else (ks ++ [k], xs ++ [d])
def dicS : Option Sl → Option (List L2.Key × List D)
  | some (.dic ks xs) => some (ks, xs)
  | _ => none
def dicAt (e : Ev) (j : Nat) : Option (List L2.Key × List D) := dicS e[j]?
theorem dicAt_some {e : Ev} {j : Nat} {p : List L2.Key × List D} (h : dicAt e j = some p) : e[j]? = some (.dic p.1 p.2) := by
  unfold dicAt dicS at h
  split at h
  · rename_i ks xs q
    cases h
    exact q
  · cases h
section
variable {M : MC} {Z : Hp}
theorem Rps.put {k : L2.Key} {v : V} {d : D} (r : Rp M Z v d) : ∀ {ks : List L2.Key} {vs : List V} {xs : List D}, Rps M Z vs xs →
    ∃ vs', (ks.zip vs).map (fun kv => if kv.1 = k then (kv.1, v) else kv) = ks.zip vs' ∧ Rps M Z vs' (List.zipWith (fun k0 x => if k0 = k then d else x) ks xs)
  | [], _, _, _ => ⟨[], rfl, .nil⟩
  | _ :: _, _, _, .nil => ⟨[], rfl, .nil⟩
  | k0 :: ks, _, _, .cons (v := v0) (d := x) h1 h2 => by
    obtain ⟨vs', e1, e2⟩ := Rps.put r (ks := ks) h2
    refine ⟨(if k0 = k then v else v0) :: vs', ?_, ?_⟩
    · rw [List.zip_cons_cons, List.zip_cons_cons, List.map_cons, e1]
      by_cases q : k0 = k
      · rw [if_pos q, if_pos q]
      · rw [if_neg q, if_neg q]
    · rw [List.zipWith_cons_cons]
      refine .cons ?_ e2
      by_cases q : k0 = k
      · rw [if_pos q, if_pos q]; exact r
      · rw [if_neg q, if_neg q]; exact h1
end
section
variable {M : MC} {W : WX} {Z H Z' H' Z1 H1 Z2 H2 H0 : Hp} {env env' env1 env2 : Ev} {σ σ' σ1 σ2 : SV} {a : Addr} {v : V} {d : D}
theorem Rep.dic (r : Rep M Z H env σ) {j : Nat} {p : List L2.Key × List D} (h : dicAt env j = some p) : ∃ (a : Addr) (vs : List V), σ[j]? = some (some (.ref a)) ∧ H a = some (.dK (p.1.zip vs)) ∧ Z a = none ∧ Rps M Z vs p.2 :=
  r.lst j _ p.2 (dicAt_some h) rfl
/-- what stands at a key -/
def dGet (j : Nat) (e : Ev) (d : D) : Option D := match keyD d, dicAt e j with
  | some k, some p => valKD p.1 p.2 k
  | _, _ => none
def kDGet3 (e : Ev) (v : D) : Out R := .ok (.val v) e
def kDGet2 (j : Nat) (e : Ev) (d : D) : Out R := opt (dGet j e d) (kDGet3 e)
def kDGet (j : Nat) (r : R) (e : Ev) : Out R := opt (r.read e) (kDGet2 j e)
def vDGet (j : Nat) (si : SE) : SE := fun env => if (dicAt env j).isSome = true then (si env).bind (kDGet j) else .bad
def dIn (neg : Bool) (j : Nat) (e : Ev) (d : D) : Option D := match keyD d, dicAt e j with
  | some k, some p => some (.bl (if neg then !(valKD p.1 p.2 k).isSome else (valKD p.1 p.2 k).isSome))
  | _, _ => none
def kDIn2 (neg : Bool) (j : Nat) (e : Ev) (d : D) : Out R := opt (dIn neg j e d) (kDGet3 e)
def kDIn (neg : Bool) (j : Nat) (r : R) (e : Ev) : Out R := opt (r.read e) (kDIn2 neg j e)
def vDIn (neg : Bool) (j : Nat) (si : SE) : SE := fun env => (si env).bind (kDIn neg j)
end
section
variable {X : Cx} {W : WX}
/-! ### the least of the values -/
def minVD (xs : List D) : Option D := match allOf D.int? xs with
  | some (n :: ns) => some (.int (ns.foldl min n))
  | _ => none
def kMinV (e : Ev) (p : List L2.Key × List D) : Out R := if p.1.length = p.2.length then opt (minVD p.2) (kDGet3 e) else .bad
def vMinV (j : Nat) : SE := fun env => opt (dicAt env j) (kMinV env)
/-! ### {k: v} into a name -/
end
section
variable {M : MC} {Z H Z' H' Z1 H1 Z2 H2 H0 : Hp} {env env' env1 env2 : Ev} {σ σ' σ1 σ2 : SV} {a : Addr}
end
/-- name = {i: n} -/
def sDNew (j : Nat) (i n : Int) : SS := fun env => if freeAt env j = true then .ok .nx (env.set j (.dic [.inl i] [.int n])) else .bad
/-- the value first, then the key, then the store -/
def dPut (j : Nat) (e : Ev) (d key : D) : Option Ev := match keyD key, dicAt e j with
  | some k, some p => if p.1.length = p.2.length ∧ p.1.length < LIM then some (e.set j (.dic (putKD p.1 p.2 k d).1 (putKD p.1 p.2 k d).2)) else none
  | _, _ => none
def kDPut5 (e : Ev) : Out Fl := .ok .nx e
def kDPut4 (j : Nat) (d : D) (e : Ev) (key : D) : Out Fl := opt (dPut j e d key) kDPut5
def kDPut3 (j : Nat) (d : D) (r : R) (e : Ev) : Out Fl := opt (r.read e) (kDPut4 j d e)
def kDPut2 (j : Nat) (si : SE) (p : D × Ev) : Out Fl := (si p.2).bind (kDPut3 j p.1)
def kDPut (j : Nat) (si : SE) (r : R) (e : Ev) : Out Fl := opt (r.esc e) (kDPut2 j si)
def sDPutD (j : Nat) (si s : SE) : SS := fun env => if (dicAt env j).isSome = true then (s env).bind (kDPut j si) else .bad
section
variable {X : Cx} {W : WX}
end
/-! ### running -/
@[simp] theorem keyD_int {n : Int} : keyD (.int n) = some (.inl n) := Eq.trans rfl rfl
@[simp] theorem dicS_dic {ks : List L2.Key} {xs : List D} : dicS (some (.dic ks xs)) = some (ks, xs) := Eq.trans rfl rfl
@[simp] theorem dicAt_eq {e : Ev} {j : Nat} : dicAt e j = dicS e[j]? := Eq.trans rfl rfl
@[simp] theorem kDGet3_eq {e : Ev} {v : D} : kDGet3 e v = .ok (.val v) e := Eq.trans rfl rfl
@[simp] theorem kDGet2_eq {j : Nat} {e : Ev} {d : D} : kDGet2 j e d = opt (dGet j e d) (kDGet3 e) := Eq.trans rfl rfl
@[simp] theorem kDGet_eq {j : Nat} {r : R} {e : Ev} : kDGet j r e = opt (r.read e) (kDGet2 j e) := Eq.trans rfl rfl
def guardS {α β : Type} (o : Option α) (y : Out β) : Out β := match o with
  | some _ => y
  | none => .bad
@[simp] theorem guardS_some {α β : Type} {a : α} {y : Out β} : guardS (some a) y = y := Eq.trans rfl rfl
theorem guardS_eq {α β : Type} {o : Option α} {y : Out β} : (if o.isSome = true then y else .bad) = guardS o y := by cases o <;> rfl
@[simp] theorem vDGet_eq {j : Nat} {si : SE} {e : Ev} : vDGet j si e = guardS (dicAt e j) ((si e).bind (kDGet j)) := by unfold vDGet; exact guardS_eq
@[simp] theorem kDIn2_eq {neg : Bool} {j : Nat} {e : Ev} {d : D} : kDIn2 neg j e d = opt (dIn neg j e d) (kDGet3 e) := Eq.trans rfl rfl
@[simp] theorem kDIn_eq {neg : Bool} {j : Nat} {r : R} {e : Ev} : kDIn neg j r e = opt (r.read e) (kDIn2 neg j e) := Eq.trans rfl rfl
@[simp] theorem vDIn_eq {neg : Bool} {j : Nat} {si : SE} {e : Ev} : vDIn neg j si e = (si e).bind (kDIn neg j) := Eq.trans rfl rfl
@[simp] theorem vMinV_eq {j : Nat} {e : Ev} : vMinV j e = opt (dicAt e j) (kMinV e) := Eq.trans rfl rfl
def putIf (e : Ev) (b : Bool) : Out Fl := if b then .ok .nx e else .bad
@[simp] theorem putIf_t {e : Ev} : putIf e true = .ok .nx e := Eq.trans rfl rfl
@[simp] theorem sDNew_eq {j : Nat} {i n : Int} {e : Ev} : sDNew j i n e = putIf (e.set j (.dic [.inl i] [.int n])) (freeAt e j) := by
  unfold sDNew putIf
  rfl
@[simp] theorem kDPut5_eq {e : Ev} : kDPut5 e = .ok .nx e := Eq.trans rfl rfl
@[simp] theorem kDPut4_eq {j : Nat} {d : D} {e : Ev} {key : D} : kDPut4 j d e key = opt (dPut j e d key) kDPut5 := Eq.trans rfl rfl
@[simp] theorem kDPut3_eq {j : Nat} {d : D} {r : R} {e : Ev} : kDPut3 j d r e = opt (r.read e) (kDPut4 j d e) := Eq.trans rfl rfl
@[simp] theorem kDPut2_eq {j : Nat} {si : SE} {p : D × Ev} : kDPut2 j si p = (si p.2).bind (kDPut3 j p.1) := Eq.trans rfl rfl
@[simp] theorem kDPut_eq {j : Nat} {si : SE} {r : R} {e : Ev} : kDPut j si r e = opt (r.esc e) (kDPut2 j si) := Eq.trans rfl rfl
@[simp] theorem sDPutD_eq {j : Nat} {si s : SE} {e : Ev} : sDPutD j si s e = guardS (dicAt e j) ((s e).bind (kDPut j si)) := by unfold sDPutD; exact guardS_eq
/-! ### a dict whose keys and whose values are numbers -/
def kN (n : Int) : L2.Key := .inl n
end DV
namespace DV
open PySem PySem.Spec L2
/-! ### the least counts that take cs to gs -/
structure Lst (many : Int) (ps : Prs) (cs gs ws : List Int) : Prop where
  len : (ws.length : Int) = many
  nn : ∀ x ∈ ws, 0 ≤ x
  zero : 0 ∈ ws
  eq : cmL ws cs ps = gs
theorem mem_nameF {l : List Int} {x : Int} (h : x ∈ l) : ∃ v : Int, 0 ≤ v ∧ v < l.length ∧ nameF l v = x := by
  obtain ⟨i, hi, e⟩ := List.getElem_of_mem h
  exact ⟨(i : Int), by omega, by omega, nameF_get (by rw [Int.toNat_natCast, List.getElem?_eq_getElem hi, e])⟩
theorem ext_nameF {l m : List Int} (h : l.length = m.length) (g : ∀ v : Int, 0 ≤ v → v < l.length → nameF l v = nameF m v) : l = m := by
  refine List.ext_getElem h fun i h1 h2 => ?_
  have e := g (i : Int) (by omega) (by omega)
  rwa [nameF_get (c := l[i]) (by rw [Int.toNat_natCast]; exact List.getElem?_eq_getElem h1), nameF_get (c := m[i]) (by rw [Int.toNat_natCast]; exact List.getElem?_eq_getElem h2)] at e
theorem rch_same {ps : Prs} {d : Int → Int} (h : ∀ q ∈ ps, d q.1 = d q.2) {a b : Int} (r : Rch ps a b) : d a = d b := by
  induction r with
  | refl => rfl
  | step _ e ih => exact ih.trans (h _ e)
theorem pot_same {many : Int} {ps : Prs} {cs gs : List Int} {f g : Int → Int} (S : Str0 many ps) (hf : ∀ i, okS ps i → nameF gs i = nameF cs i + f (stP ps i).1 - f (stP ps i).2) (hg : ∀ i, okS ps i → nameF gs i = nameF cs i + g (stP ps i).1 - g (stP ps i).2) :
    ∀ v, 0 ≤ v → v < many → f v - g v = f 0 - g 0 := fun v h0 h1 => by
  have := rch_same (d := fun v => f v - g v) (fun q hq => by
    obtain ⟨i, ok, rfl⟩ := mem_store hq
    have a := hf i ok
    have b := hg i ok
    show f _ - g _ = f _ - g _
    omega) (S.out v h0 h1)
  exact this.symm
theorem Lst.at {many : Int} {ps : Prs} {cs gs ws : List Int} (A : Lst many ps cs gs ws) (hl : cs.length = ps.length) : ∀ i, okS ps i → nameF gs i = nameF cs i + nameF ws (stP ps i).1 - nameF ws (stP ps i).2 := fun i ok => by
  rw [← A.eq]
  exact cm_at hl ok
theorem Lst.uniq {many : Int} {ps : Prs} {cs gs ws ws' : List Int} (S : Str0 many ps) (hl : cs.length = ps.length) (A : Lst many ps cs gs ws) (B : Lst many ps cs gs ws') : ws = ws' := by
  have la := A.len
  have lb := B.len
  have hd := pot_same S (A.at hl) (B.at hl)
  obtain ⟨u, u0, u1, u2⟩ := mem_nameF A.zero
  obtain ⟨v, v0, v1, v2⟩ := mem_nameF B.zero
  have h1 := hd u u0 (by omega)
  have h2 := hd v v0 (by omega)
  have h3 := B.nn _ (nameF_mem u0 (by omega))
  have h4 := A.nn _ (nameF_mem v0 (by omega))
  refine ext_nameF (by omega) fun i i0 i1 => ?_
  have := hd i i0 (by omega)
  omega
theorem cm_eq {many : Int} {ps : Prs} {cs gs ws : List Int} (hl : cs.length = ps.length) (hg : gs.length = ps.length) (h : ∀ i, okS ps i → nameF gs i = nameF cs i + nameF ws (stP ps i).1 - nameF ws (stP ps i).2) : cmL ws cs ps = gs := by
  refine ext_nameF (by rw [cm_len hl, hg]) fun v v0 v1 => ?_
  rw [cm_len hl] at v1
  rw [cm_at hl ⟨v0, v1⟩, h v ⟨v0, v1⟩]
/-- the counts over m -/
def potL (many : Int) (t : Int → Int) (m : Int) : List Int := (idxL many.toNat).map fun i => t i - m
theorem potL_len {many : Int} {t : Int → Int} {m : Int} : (potL many t m).length = many.toNat := by simp [potL, idxL]
theorem potL_at {many : Int} {t : Int → Int} {m v : Int} (h0 : 0 ≤ v) (h1 : v < many) : nameF (potL many t m) v = t v - m := by
  refine nameF_get ?_
  unfold potL idxL
  rw [List.map_map, List.getElem?_map, List.getElem?_range (by omega)]
  show some (t ((v.toNat : Nat) : Int) - m) = _
  rw [Int.toNat_of_nonneg h0]
theorem potL_lst {many : Int} {ps : Prs} {cs gs : List Int} {t : Int → Int} {m : Int} (m0 : 0 ≤ many) (h1 : ∀ v, 0 ≤ v → v < many → m ≤ t v) (h2 : ∃ v, 0 ≤ v ∧ v < many ∧ t v = m) (e : cmL (potL many t m) cs ps = gs) : Lst many ps cs gs (potL many t m) where
  len := by rw [potL_len]; omega
  nn := nn_of fun i i0 i1 => by
    rw [potL_len] at i1
    rw [potL_at i0 (by omega)]
    have := h1 i i0 (by omega)
    omega
  zero := by
    obtain ⟨v, v0, v1, v2⟩ := h2
    have := nameF_mem (l := potL many t m) v0 (by rw [potL_len]; omega)
    rw [potL_at v0 v1, v2, Int.sub_self] at this
    exact this
  eq := e
open Classical in
noncomputable def lcL (many : Int) (ps : Prs) (cs gs : List Int) : Option (List Int) := if h : ∃ ws, Lst many ps cs gs ws then some h.choose else none
theorem lcL_some {many : Int} {ps : Prs} {cs gs ws : List Int} (S : Str0 many ps) (hl : cs.length = ps.length) (A : Lst many ps cs gs ws) : lcL many ps cs gs = some ws := by
  unfold lcL
  have h : ∃ ws, Lst many ps cs gs ws := ⟨ws, A⟩
  rw [dif_pos h]
  exact congrArg some (h.choose_spec.uniq S hl A)
/-- the answer of led -/
noncomputable def unlR (ps : Prs) (cs gs : List Int) : Option (List Int) := (ringsL ps).find? fun r => !decide (sumR cs r = sumR gs r)
noncomputable def deadR (ps : Prs) (cs ws : List Int) : Option (List Int) := (ringsL ps).find? fun r => decide (sumR cs r = 0) && decide (0 < nameF ws (stP ps (nameF r 0)).1)
noncomputable def ledD (many : Int) (ps : Prs) (cs gs : List Int) : D := match lcL many ps cs gs with
  | none => .tup [.str "apart", optD (unlR ps cs gs)]
  | some ws => match deadR ps cs ws with
    | some r => .tup [.str "stopped", .tup (nums r)]
    | none => .tup [.str "led", .tup (nums ws), .tup (nums (greedyL many ps ws.sum.toNat cs ws))]
end DV
namespace DV
open PySem PySem.Spec L2
theorem lst_of {many : Int} {ps : Prs} {cs gs : List Int} {f : Int → Int} (m1 : 1 ≤ many) (inn : ∀ q ∈ ps, 0 ≤ q.1 ∧ q.1 < many ∧ 0 ≤ q.2 ∧ q.2 < many) (hl : cs.length = ps.length) (hgl : gs.length = ps.length)
    (hf : ∀ i, okS ps i → nameF gs i = nameF cs i + f (stP ps i).1 - f (stP ps i).2) :
    ∃ ws m, Lst many ps cs gs ws ∧ (∃ u, 0 ≤ u ∧ u < many ∧ f u = m) ∧ (∀ v, 0 ≤ v → v < many → m ≤ f v) ∧ ∀ v, 0 ≤ v → v < many → nameF ws v = f v - m := by
  let l := (idxL many.toNat).map f
  have hne : l ≠ [] := by
    intro z
    have : l.length = 0 := by rw [z]; rfl
    simp [l, idxL] at this
    omega
  obtain ⟨u, hu, e2⟩ := List.mem_map.mp (minL_mem hne)
  have hu := mem_idx.mp hu
  have h1 : ∀ v, 0 ≤ v → v < many → minL l ≤ f v := fun v v0 v1 => minL_le (List.mem_map.mpr ⟨v, mem_idx.mpr ⟨v0, by omega⟩, rfl⟩)
  refine ⟨potL many f (minL l), minL l, potL_lst (by omega) h1 ⟨u, hu.1, by omega, e2⟩ ?_, ⟨u, hu.1, by omega, e2⟩, h1, fun v v0 v1 => potL_at v0 v1⟩
  refine cm_eq (many := many) hl hgl fun i ok => ?_
  have h6 := inn _ (stP_mem ok)
  rw [hf i ok, potL_at h6.1 h6.2.1, potL_at h6.2.2.1 h6.2.2.2]
  omega
theorem sum_le {B : Int} : ∀ l : List Int, (∀ x ∈ l, x ≤ B) → l.sum ≤ l.length * B
  | [], _ => by simp
  | x :: l, h => by
    have h1 := sum_le l fun y hy => h y (List.mem_cons_of_mem _ hy)
    have h2 := h x (List.mem_cons_self ..)
    rw [List.sum_cons, List.length_cons, Int.natCast_add, Int.add_mul]
    omega
theorem Lst.small {many B : Int} {ps : Prs} {cs gs ws : List Int} (S : Str0 many ps) (hl : cs.length = ps.length) (A : Lst many ps cs gs ws) (m1 : many ≤ 10) (hB : ∀ v, 0 ≤ v → v < many → nameF ws v ≤ B) (b0 : 0 ≤ B) (b1 : B ≤ 90000) : ∀ ws', Lst many ps cs gs ws' → ws'.sum ≤ 900000 := fun ws' A' => by
  have la := A.len
  cases A.uniq S hl A'
  have h1 := sum_le (B := B) ws fun x hx => by
    obtain ⟨v, v0, v1, rfl⟩ := mem_nameF hx
    exact hB v v0 (by omega)
  have h2 : (ws.length : Int) * B ≤ 10 * B := Int.mul_le_mul_of_nonneg_right (by omega) b0
  omega
theorem dead_sum {ps : Prs} {cs ws : List Int} (RS : RingsOf ps (ringsL ps)) (h : ∀ R, IsRing ps R → sumR cs R ≠ 0) : deadR ps cs ws = none := by
  refine List.find?_eq_none.mpr fun R hR => ?_
  have := h R ((RS.mem R).mp hR)
  simp [this]
/-- a row that is led -/
structure LedRow (many : Int) (ps : Prs) (cs gs ws G : List Int) : Prop where
  eq : ledD many ps cs gs = .tup [.str "led", .tup (nums ws), .tup (nums G)]
  ff : FF ps cs G
  fires : Fires cs ps G
  goes : rowL cs ps G = gs
  cnt : ∀ v, 0 ≤ v → v < many → (G.count v : Int) = nameF ws v
  rng : ∀ v ∈ G, 0 ≤ v ∧ v < many
  len : (G.length : Int) = ws.sum
end DV
namespace DV
open PySem PySem.Spec L2
/-! ### all that may be done, at once -/
end DV
namespace DV
open PySem PySem.Spec L2
/-! ### a row among rows -/
end DV
namespace DV
open PySem PySem.Spec L2
/-! ### the least counts are not great -/
end DV
namespace DV
open PySem PySem.Spec L2
/-! ### where all rings agree there are counts -/
theorem begun_sum {f : Int → Int} {r : List Int} (hne : r ≠ []) : ((begunL r).map f).sum = (r.map f).sum := by
  obtain ⟨y, t, e, hn⟩ := mem_split' (minL_mem hne)
  have hb : begunL r = minL r :: t ++ y := by
    have := rotTo_mid (t := t) hn
    unfold begunL
    rw [← e] at this
    exact this
  have e2 : (r.map f).sum = ((y ++ minL r :: t).map f).sum := by rw [← e]
  rw [hb, e2]
  simp only [List.map_append, List.map_cons, List.sum_append, List.sum_cons]
  omega
end DV
namespace DV
open PySem PySem.Spec L2
/-! ### rings searched from their least store -/
def fromL (a : Int) (m : Nat) : List Int := (List.range m).map fun (i : Nat) => a + (i : Int)
theorem mem_from {a : Int} {m : Nat} {t : Int} : t ∈ fromL a m ↔ a ≤ t ∧ t < a + m := by
  unfold fromL
  rw [List.mem_map]
  constructor
  · rintro ⟨j, hj, rfl⟩
    have := List.mem_range.mp hj
    omega
  · intro h
    exact ⟨(t - a).toNat, List.mem_range.mpr (by omega), by omega⟩
theorem nodup_from {a : Int} {m : Nat} : (fromL a m).Nodup := List.pairwise_map.mpr (List.Pairwise.imp (fun h z => h (by omega)) List.nodup_range)
structure PathS (ps : Prs) (s : Int) (w : List Int) : Prop where
  hd : w.head? = some s
  way : ∃ v, isW ps (stP ps s).1 w v
  nd : (fillL ps w).Nodup
  ge : ∀ i ∈ w, s ≤ i
/-- where a way ends -/
def atW (ps : Prs) (w : List Int) : Int := endW ps 0 w
theorem endW_any {ps : Prs} {u v : Int} {w : List Int} (h : w ≠ []) : endW ps u w = endW ps v w := by
  obtain ⟨x, i, rfl⟩ : ∃ x i, w = x ++ [i] := ⟨w.dropLast, w.getLast h, (List.dropLast_concat_getLast h).symm⟩
  rw [endW_snoc, endW_snoc]
theorem PathS.ne {ps : Prs} {s : Int} {w : List Int} (P : PathS ps s w) : w ≠ [] := fun z => by have := P.hd; rw [z] at this; cases this
theorem PathS.at {ps : Prs} {s : Int} {w : List Int} (P : PathS ps s w) : isW ps (stP ps s).1 w (atW ps w) := by
  obtain ⟨v, hv⟩ := P.way
  have := isW_end hv
  unfold atW
  rw [endW_any (v := (stP ps s).1) P.ne, ← this]
  exact hv
theorem PathS.cons {ps : Prs} {s : Int} {w : List Int} (P : PathS ps s w) : ∃ t, w = s :: t := by
  have := P.hd
  cases w with
  | nil => cases this
  | cons x t => cases this; exact ⟨t, rfl⟩
theorem PathS.start {ps : Prs} {s : Int} {w : List Int} (P : PathS ps s w) : (stP ps s).1 ∈ fillL ps w := by
  obtain ⟨t, rfl⟩ := P.cons
  simp [fillL]
theorem PathS.one {ps : Prs} {s : Int} (h : okS ps s) : PathS ps s [s] := ⟨rfl, ⟨(stP ps s).2, h, rfl, rfl⟩, by simp [fillL], fun i hi => by rw [List.mem_singleton] at hi; omega⟩
theorem PathS.ring {ps : Prs} {s : Int} {w : List Int} (P : PathS ps s w) (h : atW ps w = (stP ps s).1) : IsRing ps w :=
  ⟨P.ne, ⟨_, h ▸ P.at⟩, P.nd, fun i hi x hx => by rw [P.hd] at hi; cases hi; exact P.ge x hx⟩
def kidsS (ps : Prs) (s : Int) (w : List Int) (m : Nat) : List (List Int) := ((fromL (s + 1) m).filter fun t => decide ((stP ps t).1 = atW ps w)).map fun t => w ++ [t]
theorem ring_nextS {ps : Prs} {s : Int} {w t : List Int} (P : PathS ps s w) (R : IsRing ps (w ++ t)) : (t = [] ∧ atW ps w = (stP ps s).1) ∨ ∃ e t', t = e :: t' ∧ okS ps e ∧ s < e ∧ (stP ps e).1 = atW ps w ∧ atW ps w ∉ fillL ps w := by
  obtain ⟨x, rfl⟩ := P.cons
  obtain ⟨u, hu⟩ := R.way
  have hus : (stP ps s).1 = u := hu.2.1
  obtain ⟨m, h1, h2⟩ := isW_app.mp hu
  have hm : m = atW ps (s :: x) := by
    have := isW_end h1
    rw [this]
    exact endW_any (by simp)
  subst hm
  cases t with
  | nil => exact .inl ⟨rfl, by rw [hus]; exact h2⟩
  | cons e t' =>
    obtain ⟨o1, o2, o3⟩ := h2
    refine .inr ⟨e, t', rfl, o1, ?_, o2, fun hx => ?_⟩
    · have hnd := nodup_of_fill R.nd
      have hne : s ≠ e := fun z => by
        subst z
        rw [List.cons_append, List.nodup_cons] at hnd
        exact hnd.1 (by simp)
      have := R.least s rfl e (by simp)
      omega
    · have nd := R.nd
      rw [fill_app] at nd
      exact (List.nodup_append.mp nd).2.2 _ hx _ (by rw [← o2]; simp [fillL]) rfl
theorem step_onceS {ps : Prs} {s : Int} {w r : List Int} {S Fd : List (List Int)} {m : Nat} (s0 : 0 ≤ s) (hm : s + 1 + m = ps.length) (P : PathS ps s w) (R : IsRing ps r) (h : Fd.count r + opens r (S ++ [w]) = 1) :
    (atW ps w = (stP ps s).1 → (Fd ++ [w]).count r + opens r S = 1) ∧ (atW ps w ≠ (stP ps s).1 → atW ps w ∈ fillL ps w → Fd.count r + opens r S = 1) ∧ (atW ps w ≠ (stP ps s).1 → atW ps w ∉ fillL ps w → Fd.count r + opens r (S ++ kidsS ps s w m) = 1) := by
  rw [opens_app] at h
  cases hp : w.isPrefixOf r with
  | false =>
    have h0 : opens r [w] = 0 := by
      unfold opens
      rw [List.countP_eq_zero]
      intro x hx
      rw [List.mem_singleton] at hx
      subst hx
      rw [hp]
      exact Bool.false_ne_true
    refine ⟨fun _ => ?_, fun _ _ => by omega, fun _ _ => ?_⟩
    · have : [w].count r = 0 := by
        rw [List.count_eq_zero]
        intro hx
        rw [List.mem_singleton] at hx
        subst hx
        rw [List.isPrefixOf_iff_prefix.mpr (List.prefix_refl _)] at hp
        cases hp
      rw [List.count_append, this]
      omega
    · rw [opens_app]
      unfold kidsS
      rw [opens_kids_no hp]
      omega
  | true =>
    have h1 : opens r [w] = 1 := by
      unfold opens
      rw [List.countP_cons_of_pos (by exact hp)]
      rfl
    obtain ⟨t, rfl⟩ := pre_split hp
    rcases ring_nextS P R with ⟨rfl, e1⟩ | ⟨e, t', rfl, ok, hlt, e1, e2⟩
    · refine ⟨fun _ => ?_, fun z => absurd e1 z, fun z => absurd e1 z⟩
      rw [List.append_nil] at h ⊢
      rw [List.count_append, show [w].count w = 1 by simp]
      rw [List.append_nil] at h1
      omega
    · refine ⟨fun z => absurd (z ▸ P.start) e2, fun _ z => absurd z e2, fun _ _ => ?_⟩
      rw [opens_app]
      unfold kidsS
      have hmem : e ∈ fromL (s + 1) m := mem_from.mpr ⟨by omega, by have := ok.2; omega⟩
      rw [opens_kids, count_filt nodup_from hmem, if_pos (decide_eq_true e1)]
      omega
/-! ### how many ways -/
def restL (ps : Prs) (many : Int) (w : List Int) : List Int := (idxL many.toNat).filter fun x => !decide (x ∈ fillL ps w)
def potX (ps : Prs) (many : Int) (w : List Int) : Nat := if atW ps w ∈ fillL ps w then 1 else prodL ps (restL ps many w)
def potXS (ps : Prs) (many : Int) (S : List (List Int)) : Nat := (S.map (potX ps many)).sum
theorem potX_pos {ps : Prs} {many : Int} {w : List Int} : 1 ≤ potX ps many w := by
  unfold potX
  split
  · exact Nat.le_refl _
  · exact prod_pos _
theorem potX_app {ps : Prs} {many : Int} {S T : List (List Int)} : potXS ps many (S ++ T) = potXS ps many S + potXS ps many T := by
  unfold potXS
  rw [List.map_append, List.sum_append]
theorem potX_start {ps : Prs} {many s : Int} (ok : okS ps s) (h : ps.length ≤ 16) : potX ps many [s] ≤ 32768 := by
  unfold potX
  split
  · omega
  · have nd : ((stP ps s).1 :: restL ps many [s]).Nodup := by
      rw [List.nodup_cons]
      refine ⟨fun z => ?_, List.Pairwise.filter _ nodup_idx⟩
      have := (List.mem_filter.mp z).2
      simp [fillL] at this
    have h1 := sum_out ps nd
    have e : sumN ps ((stP ps s).1 :: restL ps many [s]) = outN ps (stP ps s).1 + sumN ps (restL ps many [s]) := by
      unfold sumN
      rw [List.map_cons, List.sum_cons]
    have h2 : 1 ≤ outN ps (stP ps s).1 := by
      unfold outN
      exact List.length_pos_of_mem (a := stP ps s) (List.mem_filter.mpr ⟨stP_mem ok, by simp⟩)
    refine Nat.le_trans (prod_pow _) ?_
    have : 2 ^ sumN ps (restL ps many [s]) ≤ 2 ^ 15 := Nat.pow_le_pow_right (by omega) (by omega)
    exact this
/-- all rings found -/
theorem rings_sorted {ps : Prs} {Fd : List (List Int)} (h1 : ∀ r ∈ Fd, IsRing ps r) (h2 : ∀ r, IsRing ps r → Fd.count r = 1) : RingsOf ps (Fd.mergeSort leL) :=
  ⟨sort_strict (List.nodup_iff_count.mpr fun r => by
    by_cases hr : r ∈ Fd
    · rw [h2 r (h1 r hr)]; exact Nat.le_refl _
    · rw [List.count_eq_zero.mpr hr]; omega), fun r => by
    rw [List.mem_mergeSort]
    exact ⟨h1 r, fun hr => by
      have := h2 r hr
      exact List.count_pos_iff.mp (by omega)⟩⟩
theorem head_of {r : List Int} (h : r ≠ []) : ∃ s, r.head? = some s ∧ s ∈ r := by
  cases r with
  | nil => exact absurd rfl h
  | cons x t => exact ⟨x, rfl, List.mem_cons_self⟩
theorem opens_one {r : List Int} {s : Int} (h : r.head? = some s) : opens r [[s]] = 1 := by
  cases r with
  | nil => cases h
  | cons x t =>
    cases h
    unfold opens
    rw [List.countP_cons_of_pos (by simp [List.isPrefixOf])]
    rfl
structure SrchS (ps : Prs) (many s : Int) (Fd S : List (List Int)) : Prop where
  ring : ∀ r ∈ Fd, IsRing ps r ∧ ∀ h, r.head? = some h → h ≤ s
  path : ∀ w ∈ S, PathS ps s w
  old : ∀ r, IsRing ps r → ∀ h, r.head? = some h → h < s → Fd.count r = 1
  now : ∀ r, IsRing ps r → r.head? = some s → Fd.count r + opens r S = 1
  few : Fd.length + potXS ps many S ≤ (s.toNat + 1) * 32768
section
variable {ps : Prs} {many s : Int} {Fd S : List (List Int)} {w : List Int} {m : Nat}
theorem potX_snoc : potXS ps many (S ++ [w]) = potXS ps many S + potX ps many w := by
  rw [potX_app]
  simp [potXS]
theorem SrchS.found (A : SrchS ps many s Fd (S ++ [w])) (s0 : 0 ≤ s) (hm : s + 1 + m = ps.length) (h : atW ps w = (stP ps s).1) : SrchS ps many s (Fd ++ [w]) S := by
  have P := A.path w (by simp)
  have hp := potX_pos (ps := ps) (many := many) (w := w)
  refine ⟨fun r hr => ?_, fun v hv => A.path v (List.mem_append_left _ hv), fun r R x hx hlt => ?_, fun r R hx => (step_onceS s0 hm P R (A.now r R hx)).1 h, ?_⟩
  · rcases List.mem_append.mp hr with hr | hr
    · exact A.ring r hr
    · rw [List.mem_singleton] at hr
      subst hr
      exact ⟨P.ring h, fun x hx => by rw [P.hd] at hx; cases hx; exact Int.le_refl _⟩
  · have h1 := A.old r R x hx hlt
    have : [w].count r = 0 := by
      rw [List.count_eq_zero]
      intro hz
      rw [List.mem_singleton] at hz
      subst hz
      rw [P.hd] at hx
      cases hx
      omega
    rw [List.count_append, this]
    omega
  · have := A.few
    rw [potX_snoc] at this
    rw [List.length_append, List.length_singleton]
    omega
theorem SrchS.drop (A : SrchS ps many s Fd (S ++ [w])) (s0 : 0 ≤ s) (hm : s + 1 + m = ps.length) (h : atW ps w ≠ (stP ps s).1) (h2 : atW ps w ∈ fillL ps w) : SrchS ps many s Fd S := by
  have P := A.path w (by simp)
  refine ⟨A.ring, fun v hv => A.path v (List.mem_append_left _ hv), A.old, fun r R hx => (step_onceS s0 hm P R (A.now r R hx)).2.1 h h2, ?_⟩
  have := A.few
  rw [potX_snoc] at this
  omega
theorem SrchS.next (A : SrchS ps many s Fd []) (s0 : 0 ≤ s) (ok : okS ps (s + 1)) (hb : ps.length ≤ 16) : SrchS ps many (s + 1) Fd [[s + 1]] := by
  have h1 := A.few
  have h2 := potX_start (many := many) ok hb
  refine ⟨fun r hr => ⟨(A.ring r hr).1, fun x hx => by have := (A.ring r hr).2 x hx; omega⟩, fun v hv => by rw [List.mem_singleton] at hv; subst hv; exact .one ok, fun r R x hx hlt => ?_, fun r R hx => ?_, ?_⟩
  · by_cases e : x < s
    · exact A.old r R x hx e
    · have : x = s := by omega
      subst this
      have := A.now r R hx
      simpa [opens] using this
  · rw [opens_one hx]
    have : Fd.count r = 0 := by
      rw [List.count_eq_zero]
      intro hz
      have := (A.ring r hz).2 _ hx
      omega
    omega
  · rw [show (s + 1).toNat = s.toNat + 1 by omega]
    have e : potXS ps many [] = 0 := rfl
    have e2 : potXS ps many [[s + 1]] = potX ps many [s + 1] := by simp [potXS]
    rw [e] at h1
    rw [e2]
    omega
theorem SrchS.init (ok : okS ps 0) (hb : ps.length ≤ 16) : SrchS ps many 0 [] [[0]] := by
  have h2 := potX_start (many := many) ok hb
  refine ⟨by simp, fun v hv => by rw [List.mem_singleton] at hv; subst hv; exact .one ok, fun r R x hx hlt => ?_, fun r R hx => by rw [opens_one hx]; rfl, ?_⟩
  · obtain ⟨y, hy, hm⟩ := head_of R.ne
    rw [hx] at hy
    cases hy
    have := (R.ok _ hm).1
    omega
  · have e2 : potXS ps many [[0]] = potX ps many [0] := by simp [potXS]
    rw [e2]
    simp
    omega
theorem SrchS.all (A : SrchS ps many s Fd []) (hs : s + 1 = ps.length) : RingsOf ps (Fd.mergeSort leL) :=
  rings_sorted (fun r hr => (A.ring r hr).1) fun r R => by
    obtain ⟨x, hx, hm⟩ := head_of R.ne
    have := (R.ok x hm).2
    by_cases e : x < s
    · exact A.old r R x hx e
    · have : x = s := by omega
      subst this
      have := A.now r R hx
      simpa [opens] using this
end
end DV
namespace DV
open PySem PySem.Spec L2
/-! ### ways and their weights -/
section
variable {ps : Prs} {f : Int → Int}
theorem closed_ge (h : ∀ R, IsRing ps R → 0 ≤ (R.map f).sum) : ∀ (n : Nat) {r : List Int} {u : Int}, r.length ≤ n → isW ps u r u → 0 ≤ (r.map f).sum
  | 0, r, u, hn, hw => by
    cases r with
    | nil => exact Int.le_refl _
    | cons x r => simp at hn
  | n + 1, r, u, hn, hw => by
    by_cases hne : r = []
    · subst hne; exact Int.le_refl _
    by_cases nd : (fillL ps r).Nodup
    · obtain ⟨R, _⟩ := ring_of_closed hne hw nd
      have := h _ R
      rwa [begun_sum hne] at this
    · obtain ⟨a, i, b, j, c, e, hf⟩ := twins nd
      subst e
      rw [List.append_assoc] at hw
      obtain ⟨m, h1, h2⟩ := isW_app.mp hw
      obtain ⟨m2, h3, h4⟩ := isW_app.mp h2
      have e1 : (stP ps i).1 = m := h3.2.1
      have e2 : (stP ps j).1 = m2 := h4.2.1
      have e3 : m2 = m := by rw [← e1, ← e2, hf]
      subst e3
      have s1 := closed_ge h n (r := i :: b) (by simp at hn ⊢; omega) h3
      have s2 := closed_ge h n (r := a ++ j :: c) (by simp at hn ⊢; omega) (isW_app.mpr ⟨_, h1, h4⟩)
      simp only [List.map_append, List.map_cons, List.sum_append, List.sum_cons] at s1 s2 ⊢
      omega
/-- without its loops a way weighs no more -/
theorem way_simple (h : ∀ R, IsRing ps R → 0 ≤ (R.map f).sum) : ∀ (n : Nat) {r : List Int} {u v : Int}, r.length ≤ n → isW ps u r v → ∃ r', isW ps u r' v ∧ (fillL ps r').Nodup ∧ (r'.map f).sum ≤ (r.map f).sum ∧ r'.length ≤ r.length ∧ ∀ i ∈ r', i ∈ r
  | 0, r, u, v, hn, hw => by
    cases r with
    | nil => exact ⟨[], hw, List.Pairwise.nil, Int.le_refl _, Nat.le_refl _, fun _ h => h⟩
    | cons x r => simp at hn
  | n + 1, r, u, v, hn, hw => by
    by_cases nd : (fillL ps r).Nodup
    · exact ⟨r, hw, nd, Int.le_refl _, Nat.le_refl _, fun _ h => h⟩
    · obtain ⟨a, i, b, j, c, e, hf⟩ := twins nd
      subst e
      rw [List.append_assoc] at hw
      obtain ⟨m, h1, h2⟩ := isW_app.mp hw
      obtain ⟨m2, h3, h4⟩ := isW_app.mp h2
      have e1 : (stP ps i).1 = m := h3.2.1
      have e2 : (stP ps j).1 = m2 := h4.2.1
      have e3 : m2 = m := by rw [← e1, ← e2, hf]
      subst e3
      have s1 := closed_ge h _ (Nat.le_refl _) h3
      obtain ⟨r', w1, w2, w3, w4, w5⟩ := way_simple h n (r := a ++ j :: c) (by simp at hn ⊢; omega) (isW_app.mpr ⟨_, h1, h4⟩)
      refine ⟨r', w1, w2, ?_, by simp at w4 ⊢; omega, fun x hx => ?_⟩
      · simp only [List.map_append, List.map_cons, List.sum_append, List.sum_cons] at s1 w3 ⊢
        omega
      · have := w5 x hx
        simp only [List.mem_append, List.mem_cons] at this ⊢
        rcases this with h | h | h
        · exact .inl (.inl h)
        · exact .inr (.inl h)
        · exact .inr (.inr h)
theorem simple_len {many : Int} {r : List Int} {u v : Int} (inn : ∀ q ∈ ps, 0 ≤ q.1 ∧ q.1 < many ∧ 0 ≤ q.2 ∧ q.2 < many) (m0 : 0 ≤ many) (hw : isW ps u r v) (nd : (fillL ps r).Nodup) : (r.length : Int) ≤ many := by
  have := nodup_len (many := many) nd (fun x hx => by
    obtain ⟨j, hj, rfl⟩ := List.mem_map.mp hx
    have := inn _ (stP_mem (isW_ok hw j hj))
    exact ⟨this.1, this.2.1⟩) m0
  rwa [fill_len] at this
theorem isW_in {many : Int} {r : List Int} {u v : Int} (inn : ∀ q ∈ ps, 0 ≤ q.1 ∧ q.1 < many ∧ 0 ≤ q.2 ∧ q.2 < many) (hw : isW ps u r v) (hu : 0 ≤ u ∧ u < many) : 0 ≤ v ∧ v < many := by
  rcases List.eq_nil_or_concat r with rfl | ⟨x, i, rfl⟩
  · have : u = v := hw
    omega
  · rw [List.concat_eq_append] at hw
    obtain ⟨_, ok, e⟩ := isW_snoc.mp hw
    have := inn _ (stP_mem ok)
    omega
end
/-! ### lifted: no count is greater than another one's and a store's weight between -/
structure BF (many : Int) (ps : Prs) (f : Int → Int) (k j : Nat) (t : List Int) : Prop where
  len : (t.length : Int) = many
  low : ∀ v, 0 ≤ v → v < many → ∃ u r, 0 ≤ u ∧ u < many ∧ isW ps u r v ∧ (r.map f).sum = nameF t v
  up : ∀ u r v, 0 ≤ u → u < many → isW ps u r v → r.length ≤ k → nameF t v ≤ (r.map f).sum
  part : ∀ u r (i : Nat), 0 ≤ u → u < many → i < j → i < ps.length → isW ps u r (stP ps (i : Int)).1 → r.length ≤ k → nameF t (stP ps (i : Int)).2 ≤ (r.map f).sum + f (i : Int)
section
variable {many : Int} {ps : Prs} {f : Int → Int} {k j : Nat} {t : List Int}
theorem BF.init (m0 : 0 ≤ many) : BF many ps f 0 0 (List.replicate many.toNat 0) := by
  have hz : ∀ v, nameF (List.replicate many.toNat (0 : Int)) v = 0 := fun v => by
    unfold nameF
    rw [List.getElem?_replicate]
    split <;> rfl
  refine ⟨by rw [List.length_replicate]; omega, fun v h0 h1 => ⟨v, [], h0, h1, rfl, (hz v).symm⟩, fun u r v _ _ _ hr => ?_, fun u r i _ _ hi => absurd hi (by omega)⟩
  have : r = [] := List.eq_nil_of_length_eq_zero (by omega)
  subst this
  rw [hz]
  exact Int.le_refl _
theorem BF.step (inn : ∀ q ∈ ps, 0 ≤ q.1 ∧ q.1 < many ∧ 0 ≤ q.2 ∧ q.2 < many) (hj : j < ps.length) (B : BF many ps f k j t) {x : Int} (hx : x = if nameF t (stP ps (j : Int)).1 + f (j : Int) < nameF t (stP ps (j : Int)).2 then nameF t (stP ps (j : Int)).1 + f (j : Int) else nameF t (stP ps (j : Int)).2) :
    BF many ps f k (j + 1) (t.set (stP ps (j : Int)).2.toNat x) := by
  have ok : okS ps (j : Int) := ⟨by omega, by omega⟩
  have h6 := inn _ (stP_mem ok)
  have hl := B.len
  have hset : ∀ v, 0 ≤ v → nameF (t.set (stP ps (j : Int)).2.toNat x) v = if v = (stP ps (j : Int)).2 then x else nameF t v := fun v h0 => nameF_set h6.2.2.1 (by omega) h0
  have hle : ∀ v, 0 ≤ v → nameF (t.set (stP ps (j : Int)).2.toNat x) v ≤ nameF t v := fun v h0 => by
    rw [hset v h0]
    by_cases e : v = (stP ps (j : Int)).2
    · rw [if_pos e, e]; split at hx <;> omega
    · rw [if_neg e]; exact Int.le_refl _
  refine ⟨by rw [List.length_set]; exact hl, fun v h0 h1 => ?_, fun u r v u0 u1 hw hr => ?_, fun u r i u0 u1 hi hip hw hr => ?_⟩
  · rw [hset v h0]
    by_cases e : v = (stP ps (j : Int)).2
    · rw [if_pos e]
      subst e
      by_cases c : nameF t (stP ps (j : Int)).1 + f (j : Int) < nameF t (stP ps (j : Int)).2
      · rw [if_pos c] at hx
        obtain ⟨u, r, u0, u1, hw, hs⟩ := B.low _ h6.1 h6.2.1
        refine ⟨u, r ++ [(j : Int)], u0, u1, isW_snoc.mpr ⟨hw, ok, rfl⟩, ?_⟩
        rw [List.map_append, List.sum_append, hs, hx]
        simp
      · rw [if_neg c] at hx
        rw [hx]
        exact B.low _ h0 h1
    · rw [if_neg e]
      exact B.low v h0 h1
  · have hv := isW_in inn hw ⟨u0, u1⟩
    have := B.up u r v u0 u1 hw hr
    have := hle v hv.1
    omega
  · have oki : okS ps (i : Int) := ⟨by omega, by omega⟩
    have h7 := inn _ (stP_mem oki)
    by_cases c : i = j
    · subst c
      have h1 := B.up u r _ u0 u1 hw hr
      rw [hset _ h7.2.2.1, if_pos rfl]
      split at hx <;> omega
    · have h1 := B.part u r i u0 u1 (by omega) hip hw hr
      have h2 := hle _ h7.2.2.1
      omega
theorem BF.done (inn : ∀ q ∈ ps, 0 ≤ q.1 ∧ q.1 < many ∧ 0 ≤ q.2 ∧ q.2 < many) (m0 : 0 ≤ many) (h : ∀ R, IsRing ps R → 0 ≤ (R.map f).sum) (B : BF many ps f k 0 t) (hk : many ≤ k) : ∀ i, okS ps i → nameF t (stP ps i).2 ≤ nameF t (stP ps i).1 + f i := fun i ok => by
  have h6 := inn _ (stP_mem ok)
  obtain ⟨u, r, u0, u1, hw, hs⟩ := B.low _ h6.1 h6.2.1
  obtain ⟨r', w1, w2, w3, _, _⟩ := way_simple h _ (Nat.le_refl _) (isW_snoc.mpr ⟨hw, ok, rfl⟩)
  have h1 := B.up u r' _ u0 u1 w1 (by have := simple_len inn m0 w1 w2; omega)
  rw [List.map_append, List.sum_append, hs] at w3
  simp at w3
  omega
theorem sum_ge {B : Int} {g : Int → Int} : ∀ l : List Int, (∀ x ∈ l, -B ≤ g x) → -(l.length * B) ≤ (l.map g).sum
  | [], _ => by simp
  | x :: l, h => by
    have h1 := sum_ge l fun y hy => h y (List.mem_cons_of_mem _ hy)
    have h2 := h x (List.mem_cons_self ..)
    rw [List.map_cons, List.sum_cons, List.length_cons, Int.natCast_add, Int.add_mul]
    omega
theorem BF.range (inn : ∀ q ∈ ps, 0 ≤ q.1 ∧ q.1 < many ∧ 0 ≤ q.2 ∧ q.2 < many) (m0 : 0 ≤ many) (h : ∀ R, IsRing ps R → 0 ≤ (R.map f).sum) (B : BF many ps f k 0 t) (hf : ∀ i, okS ps i → -1 ≤ f i) : ∀ v, 0 ≤ v → v < many → nameF t v ≤ 0 ∧ -many ≤ nameF t v := fun v v0 v1 => by
  refine ⟨B.up v [] v v0 v1 rfl (Nat.zero_le _), ?_⟩
  obtain ⟨u, r, u0, u1, hw, hs⟩ := B.low v v0 v1
  obtain ⟨r', w1, w2, w3, _, _⟩ := way_simple h _ (Nat.le_refl _) hw
  have h1 := simple_len inn m0 w1 w2
  have h2 := sum_ge (B := 1) (g := f) r' fun i hi => hf i (isW_ok w1 i hi)
  omega
end
end DV
namespace DV
open PySem PySem.Spec L2
/-! ### tables of numbers (lists of lists that change), by their own small steps -/
abbrev ZV := SV → Hp → Int → Prop
section
variable {X : Cx} {e a b : Expr} {v va vb : ZV} {pos : Pos}
end
/-! ### a new table -/
def rowZ (F : Int → Int → Int) (i : Int) (k : Nat) : List Int := (List.range k).map fun (j : Nat) => F i (j : Int)
def tabZ (F : Int → Int → Int) (m : Nat) : List (List Int) := (List.range m).map fun (i : Nat) => rowZ F (i : Int) m
structure MatA (H : Hp) (a : Addr) (rs : List Addr) (R : List (List Int)) : Prop where
  out : H a = some (.lst (rs.map V.ref))
  len : rs.length = R.length
  nd : (a :: rs).Nodup
  row : ∀ (k : Nat) r, rs[k]? = some r → ∃ l, R[k]? = some l ∧ H r = some (.lst (l.map V.int))
end DV
namespace DV
open PySem PySem.Spec L2
/-! ### least sums of ways, plain -/
def entR (R : List (List Int)) (i j : Int) : Int := nameF ((R[i.toNat]?).getD []) j
def putR (R : List (List Int)) (i j x : Int) : List (List Int) := R.set i.toNat (((R[i.toNat]?).getD []).set j.toNat x)
structure DimR (m : Int) (R : List (List Int)) : Prop where
  out : (R.length : Int) = m
  row : ∀ l ∈ R, (l.length : Int) = m
section
variable {m : Int} {R : List (List Int)}
theorem DimR.get (D : DimR m R) {i : Int} (h0 : 0 ≤ i) (h1 : i < m) : ∃ l, R[i.toNat]? = some l ∧ (l.length : Int) = m := by
  have hl := D.out
  have : i.toNat < R.length := by omega
  exact ⟨R[i.toNat], List.getElem?_eq_getElem this, D.row _ (List.getElem_mem this)⟩
theorem DimR.put (D : DimR m R) {i j x : Int} (i0 : 0 ≤ i) (i1 : i < m) : DimR m (putR R i j x) := by
  refine ⟨by unfold putR; rw [List.length_set]; exact D.out, fun l hl => ?_⟩
  rcases List.mem_or_eq_of_mem_set hl with h | h
  · exact D.row l h
  · obtain ⟨l0, h1, h2⟩ := D.get i0 i1
    rw [h, h1, List.length_set]
    exact h2
theorem ent_put (D : DimR m R) {i j x u v : Int} (i0 : 0 ≤ i) (i1 : i < m) (j0 : 0 ≤ j) (j1 : j < m) (u0 : 0 ≤ u) (u1 : u < m) (v0 : 0 ≤ v) (v1 : v < m) : entR (putR R i j x) u v = if u = i ∧ v = j then x else entR R u v := by
  obtain ⟨l0, h1, h2⟩ := D.get i0 i1
  have hl := D.out
  unfold entR putR
  rw [h1]
  by_cases e : u = i
  · subst e
    rw [List.getElem?_set_self (by omega)]
    show nameF (l0.set j.toNat x) v = _
    rw [nameF_set j0 (by omega) v0, h1]
    by_cases e2 : v = j
    · rw [if_pos e2, if_pos ⟨rfl, e2⟩]
    · rw [if_neg e2, if_neg fun z => e2 z.2]
      rfl
  · rw [List.getElem?_set_ne (by omega), if_neg fun z => e z.1]
theorem ent_tab {F : Int → Int → Int} {n : Nat} {u v : Int} (u0 : 0 ≤ u) (u1 : u < n) (v0 : 0 ≤ v) (v1 : v < n) : entR (tabZ F n) u v = F u v := by
  unfold entR tabZ
  rw [List.getElem?_map, List.getElem?_range (by omega)]
  refine nameF_get ?_
  show ((rowZ F ((u.toNat : Nat) : Int) n)[v.toNat]?) = _
  unfold rowZ
  rw [List.getElem?_map, List.getElem?_range (by omega), Int.toNat_of_nonneg u0]
  show some (F u ((v.toNat : Nat) : Int)) = _
  rw [Int.toNat_of_nonneg v0]
theorem dim_tab {F : Int → Int → Int} {n : Nat} : DimR (n : Int) (tabZ F n) :=
  ⟨by simp [tabZ], fun l hl => by
    obtain ⟨i, _, rfl⟩ := List.mem_map.mp hl
    simp [rowZ]⟩
theorem ext_ent {R' : List (List Int)} (D : DimR m R) (D' : DimR m R') (h : ∀ u v, 0 ≤ u → u < m → 0 ≤ v → v < m → entR R u v = entR R' u v) : R = R' := by
  have h1 := D.out
  have h2 := D'.out
  refine List.ext_getElem (by omega) fun i g1 g2 => ?_
  have hr1 := D.row _ (List.getElem_mem g1)
  have hr2 := D'.row _ (List.getElem_mem g2)
  refine ext_nameF (by omega) fun v v0 v1 => ?_
  have := h (i : Int) v (by omega) (by omega) v0 (by omega)
  unfold entR at this
  rw [Int.toNat_natCast, List.getElem?_eq_getElem g1, List.getElem?_eq_getElem g2] at this
  exact this
end
/-- the works amid a way are less than k -/
def amid (ps : Prs) (k : Int) (r : List Int) : Prop := ∀ x ∈ fillL ps r.tail, x < k
section
variable {many far : Int} {ps : Prs} {w : Int → Int}
theorem sum_nn' {r : List Int} (h : ∀ i ∈ r, 0 ≤ w i) : 0 ≤ (r.map w).sum := sum_nn fun c hc => by
  obtain ⟨i, hi, rfl⟩ := List.mem_map.mp hc
  exact h i hi
theorem w_way {r : List Int} {u v : Int} (w0 : ∀ i, okS ps i → 0 ≤ w i) (hw : isW ps u r v) : 0 ≤ (r.map w).sum := sum_nn' fun i hi => w0 i (isW_ok hw i hi)
/-- how far the table is: all ways with works below k amid; P: the pairs with k itself too -/
structure FWs (many far : Int) (ps : Prs) (w : Int → Int) (k : Int) (P : Int → Int → Prop) (R : List (List Int)) : Prop where
  dim : DimR many R
  le : ∀ u v, 0 ≤ u → u < many → 0 ≤ v → v < many → 0 ≤ entR R u v ∧ entR R u v ≤ far
  low : ∀ u v, 0 ≤ u → u < many → 0 ≤ v → v < many → entR R u v = far ∨ ∃ r, isW ps u r v ∧ (r.map w).sum = entR R u v
  up : ∀ u v r, 0 ≤ u → u < many → 0 ≤ v → v < many → isW ps u r v → amid ps k r → entR R u v ≤ (r.map w).sum
  part : ∀ u v r, 0 ≤ u → u < many → 0 ≤ v → v < many → P u v → isW ps u r v → amid ps (k + 1) r → entR R u v ≤ (r.map w).sum
variable {k : Int} {P P' : Int → Int → Prop} {R : List (List Int)}
theorem FWs.next (A : FWs many far ps w k P R) (h : ∀ u v, 0 ≤ u → u < many → 0 ≤ v → v < many → P u v) : FWs many far ps w (k + 1) (fun _ _ => False) R :=
  ⟨A.dim, A.le, A.low, fun u v r u0 u1 v0 v1 hw ha => A.part u v r u0 u1 v0 v1 (h u v u0 u1 v0 v1) hw ha, fun _ _ _ _ _ _ _ h => h.elim⟩
theorem FWs.weak (A : FWs many far ps w k P R) (h : ∀ u v, P' u v → P u v) : FWs many far ps w k P' R := ⟨A.dim, A.le, A.low, A.up, fun u v r u0 u1 v0 v1 hP => A.part u v r u0 u1 v0 v1 (h u v hP)⟩
/-- a table of least sums -/
structure TabIs (many : Int) (ps : Prs) (w : Int → Int) (R : List (List Int)) : Prop where
  dim : DimR many R
  way : ∀ u v, 0 ≤ u → u < many → 0 ≤ v → v < many → ∃ r, isW ps u r v ∧ (r.map w).sum = entR R u v
  le : ∀ u v r, 0 ≤ u → u < many → 0 ≤ v → v < many → isW ps u r v → entR R u v ≤ (r.map w).sum
theorem TabIs.uniq {R' : List (List Int)} (A : TabIs many ps w R) (B : TabIs many ps w R') : R = R' := ext_ent A.dim B.dim fun u v u0 u1 v0 v1 => by
  obtain ⟨r, h1, h2⟩ := A.way u v u0 u1 v0 v1
  obtain ⟨s, h3, h4⟩ := B.way u v u0 u1 v0 v1
  have h5 := A.le u v s u0 u1 v0 v1 h3
  have h6 := B.le u v r u0 u1 v0 v1 h1
  omega
theorem FWs.tab (A : FWs many far ps w many P R) (inn : ∀ q ∈ ps, 0 ≤ q.1 ∧ q.1 < many ∧ 0 ≤ q.2 ∧ q.2 < many) (hf : ∀ u v, 0 ≤ u → u < many → 0 ≤ v → v < many → ∃ r, isW ps u r v ∧ (r.map w).sum < far) : TabIs many ps w R := by
  have hall : ∀ r u v, isW ps u r v → amid ps many r := fun r u v hw x hx => by
    obtain ⟨i, hi, rfl⟩ := List.mem_map.mp hx
    exact (inn _ (stP_mem (isW_ok hw i (List.mem_of_mem_tail hi)))).2.1
  refine ⟨A.dim, fun u v u0 u1 v0 v1 => ?_, fun u v r u0 u1 v0 v1 hw => A.up u v r u0 u1 v0 v1 hw (hall r u v hw)⟩
  rcases A.low u v u0 u1 v0 v1 with h | h
  · obtain ⟨r, h1, h2⟩ := hf u v u0 u1 v0 v1
    have := A.up u v r u0 u1 v0 v1 h1 (hall r u v h1)
    omega
  · exact h
end
end DV
namespace DV
open PySem PySem.Spec L2
/-! ### the three loops over a table -/
theorem MatA.read {H : Hp} {a : Addr} {rs : List Addr} {R : List (List Int)} {m i j : Int} (A : MatA H a rs R) (D : DimR m R) (i0 : 0 ≤ i) (i1 : i < m) (j0 : 0 ≤ j) (j1 : j < m) :
    ∃ (r : Addr) (ys : List Int), rs[i.toNat]? = some r ∧ R[i.toNat]? = some ys ∧ (ys.length : Int) = m ∧ H a = some (.lst (rs.map V.ref)) ∧ L2.atI (rs.map V.ref) i = some (.ref r) ∧ H r = some (.lst (ys.map V.int)) ∧ L2.atI (ys.map V.int) j = some (.int (entR R i j)) := by
  have hl := D.out
  have hrl := A.len
  have hr : rs[i.toNat]? = some rs[i.toNat] := List.getElem?_eq_getElem (by omega)
  obtain ⟨ys, h1, h2⟩ := A.row _ _ hr
  have hy := D.row ys (List.mem_of_getElem? h1)
  refine ⟨_, ys, hr, h1, hy, A.out, ?_, h2, ?_⟩
  · rw [atI_nat i0 (by rw [List.length_map]; omega), List.getElem?_map, hr]
    rfl
  · rw [atI_nat j0 (by rw [List.length_map]; omega), List.getElem?_map]
    unfold entR
    rw [h1]
    have hj : ys[j.toNat]? = some ys[j.toNat] := List.getElem?_eq_getElem (by omega)
    show (ys[j.toNat]?).map V.int = some (.int (nameF ys j))
    rw [nameF_get hj, hj]
    rfl
theorem nodup_same {α : Type} {l : List α} (h : l.Nodup) {i j : Nat} (h1 : i < l.length) (h2 : j < l.length) (e : l[i] = l[j]) : i = j := by
  have hp := List.pairwise_iff_getElem.mp h
  rcases Nat.lt_trichotomy i j with g | g | g
  · exact absurd e (hp i j h1 h2 g)
  · exact g
  · exact absurd e.symm (hp j i h2 h1 g)
theorem MatA.put {H : Hp} {a r : Addr} {rs : List Addr} {R : List (List Int)} {ys : List Int} {i j x : Int} (A : MatA H a rs R) (hr : rs[i.toNat]? = some r) (hy : R[i.toNat]? = some ys) :
    MatA (upd H r (.lst ((ys.map V.int).set j.toNat (.int x)))) a rs (putR R i j x) := by
  have hnd := List.nodup_cons.mp A.nd
  have hrm : r ∈ rs := List.mem_of_getElem? hr
  have har : a ≠ r := fun z => hnd.1 (z ▸ hrm)
  refine ⟨by rw [upd_ne har]; exact A.out, by unfold putR; rw [List.length_set]; exact A.len, A.nd, fun k q hq => ?_⟩
  obtain ⟨l, h1, h2⟩ := A.row k q hq
  unfold putR
  rw [hy]
  by_cases e : i.toNat = k
  · subst e
    rw [hr] at hq
    cases hq
    refine ⟨_, List.getElem?_set_self (List.getElem?_eq_some_iff.mp hy).1, ?_⟩
    rw [upd_same]
    show _ = some (HO.lst ((ys.set j.toNat x).map V.int))
    rw [List.map_set]
  · have hqr : q ≠ r := fun z => by
      subst z
      obtain ⟨g1, e1⟩ := List.getElem?_eq_some_iff.mp hr
      obtain ⟨g2, e2⟩ := List.getElem?_eq_some_iff.mp hq
      exact e (nodup_same hnd.2 g1 g2 (e1.trans e2.symm))
    rw [List.getElem?_set_ne e, upd_ne hqr]
    exact ⟨l, h1, h2⟩
structure FWst (keep : List Nat) (σ0 : SV) (H0 : Hp) (a : Addr) (rs : List Addr) (many far : Int) (ps : Prs) (w : Int → Int) (k : Int) (P : Int → Int → Prop) (σ : SV) (H : Hp) : Prop where
  sl : ∀ j ∈ keep, σ[j]? = σ0[j]?
  ln : σ.length = σ0.length
  old : ∀ b, H0 b ≠ none → H b = H0 b
  mat : ∃ R, MatA H a rs R ∧ FWs many far ps w k P R
structure FWok (keep : List Nat) (σ0 : SV) (H0 : Hp) (a : Addr) (rs : List Addr) (many : Int) (ps : Prs) (w : Int → Int) (jf jb jo jv : Nat) (v1 v2 v3 : ZV) : Prop where
  kf : jf ∈ keep
  kb : jb ∉ keep
  ko : jo ∉ keep
  kv : jv ∉ keep
  lb : jb < σ0.length
  lo : jo < σ0.length
  lv : jv < σ0.length
  bo : jb ≠ jo
  bv : jb ≠ jv
  ov : jo ≠ jv
  at_ : σ0[jf]? = some (some (.ref a))
  new : ∀ b ∈ a :: rs, H0 b = none
  n1 : ∀ σ H, (∀ j ∈ keep, σ[j]? = σ0[j]?) → (∀ b, H0 b ≠ none → H b = H0 b) → v1 σ H many ∧ v2 σ H many ∧ v3 σ H many
  m0 : 0 ≤ many
  m1 : many < 1000000
  w0 : ∀ i, okS ps i → 0 ≤ w i
section
variable {keep : List Nat} {σ0 σ : SV} {H0 H : Hp} {a : Addr} {rs : List Addr} {many far : Int} {ps : Prs} {w : Int → Int} {k : Int} {P P' : Int → Int → Prop} {jf jb jo jv : Nat} {v1 v2 v3 : ZV}
theorem FWst.slot (A : FWst keep σ0 H0 a rs many far ps w k P σ H) {j : Nat} (hj : j ∉ keep) {o : Option V} : FWst keep σ0 H0 a rs many far ps w k P (σ.set j o) H :=
  ⟨fun i hi => by rw [List.getElem?_set_ne (fun z => hj (by rw [z]; exact hi))]; exact A.sl i hi, by rw [List.length_set]; exact A.ln, A.old, A.mat⟩
theorem FWst.plain (A : FWst keep σ0 H0 a rs many far ps w k P σ H) {k' : Int} (h : ∀ R, FWs many far ps w k P R → FWs many far ps w k' P' R) : FWst keep σ0 H0 a rs many far ps w k' P' σ H :=
  ⟨A.sl, A.ln, A.old, by obtain ⟨R, h1, h2⟩ := A.mat; exact ⟨R, h1, h R h2⟩⟩
end
section
variable {X : Cx}
end
end DV
namespace DV
open PySem PySem.Spec L2
/-! ### the table before the three loops -/
/-- after the first i stores -/
structure Ed (many far : Int) (ps : Prs) (w : Int → Int) (i : Int) (R : List (List Int)) : Prop where
  dim : DimR many R
  le : ∀ u v, 0 ≤ u → u < many → 0 ≤ v → v < many → 0 ≤ entR R u v ∧ entR R u v ≤ far
  low : ∀ u v, 0 ≤ u → u < many → 0 ≤ v → v < many → entR R u v = far ∨ ∃ r, isW ps u r v ∧ (r.map w).sum = entR R u v
  diag : ∀ u, 0 ≤ u → u < many → entR R u u = 0
  edge : ∀ j, 0 ≤ j → j < i → entR R (stP ps j).1 (stP ps j).2 ≤ w j
section
variable {many far : Int} {ps : Prs} {w : Int → Int} {i : Int} {R : List (List Int)}
theorem isW_one {j : Int} (h : okS ps j) : isW ps (stP ps j).1 [j] (stP ps j).2 := ⟨h, rfl, rfl⟩
theorem Ed.start {n : Nat} {F : Int → Int → Int} (f0 : 0 ≤ far) (hF : ∀ u v, F u v = if u = v then 0 else far) : Ed (n : Int) far ps w 0 (tabZ F n) := by
  have he : ∀ u v, 0 ≤ u → u < (n : Int) → 0 ≤ v → v < (n : Int) → entR (tabZ F n) u v = if u = v then 0 else far := fun u v u0 u1 v0 v1 => by rw [ent_tab u0 u1 v0 v1, hF]
  refine ⟨dim_tab, fun u v u0 u1 v0 v1 => ?_, fun u v u0 u1 v0 v1 => ?_, fun u u0 u1 => ?_, fun j h0 h1 => by omega⟩
  · rw [he u v u0 u1 v0 v1]
    split <;> omega
  · rw [he u v u0 u1 v0 v1]
    by_cases e : u = v
    · rw [if_pos e]; exact .inr ⟨[], e, rfl⟩
    · rw [if_neg e]; exact .inl rfl
  · rw [he u u u0 u1 u0 u1, if_pos rfl]
theorem Ed.step (A : Ed many far ps w i R) (inn : ∀ q ∈ ps, 0 ≤ q.1 ∧ q.1 < many ∧ 0 ≤ q.2 ∧ q.2 < many) (w0 : ∀ i, okS ps i → 0 ≤ w i) (hi : okS ps i) {x : Int} (hx : x = if w i < entR R (stP ps i).1 (stP ps i).2 then w i else entR R (stP ps i).1 (stP ps i).2) :
    Ed many far ps w (i + 1) (putR R (stP ps i).1 (stP ps i).2 x) := by
  obtain ⟨a0, a1, b0, b1⟩ := inn _ (stP_mem hi)
  have he : ∀ u v, 0 ≤ u → u < many → 0 ≤ v → v < many → entR (putR R (stP ps i).1 (stP ps i).2 x) u v = if u = (stP ps i).1 ∧ v = (stP ps i).2 then x else entR R u v := fun u v u0 u1 v0 v1 => ent_put A.dim a0 a1 b0 b1 u0 u1 v0 v1
  have h1 := A.le _ _ a0 a1 b0 b1
  have h2 := w0 i hi
  refine ⟨A.dim.put a0 a1, fun u v u0 u1 v0 v1 => ?_, fun u v u0 u1 v0 v1 => ?_, fun u u0 u1 => ?_, fun j h0 hj => ?_⟩
  · rw [he u v u0 u1 v0 v1]
    have h3 := A.le u v u0 u1 v0 v1
    split
    · split at hx <;> omega
    · exact h3
  · rw [he u v u0 u1 v0 v1]
    by_cases e : u = (stP ps i).1 ∧ v = (stP ps i).2
    · rw [if_pos e]
      obtain ⟨rfl, rfl⟩ := e
      split at hx
      · exact .inr ⟨[i], isW_one hi, by simp [hx]⟩
      · rw [hx]; exact A.low _ _ a0 a1 b0 b1
    · rw [if_neg e]; exact A.low u v u0 u1 v0 v1
  · rw [he u u u0 u1 u0 u1]
    have h3 := A.diag u u0 u1
    by_cases e : u = (stP ps i).1 ∧ u = (stP ps i).2
    · rw [if_pos e]
      rw [← e.1, ← e.2] at hx
      split at hx <;> omega
    · rw [if_neg e]; exact h3
  · have hjo : okS ps j := ⟨h0, by have := hi.2; omega⟩
    obtain ⟨c0, c1, d0, d1⟩ := inn _ (stP_mem hjo)
    rw [he _ _ c0 c1 d0 d1]
    by_cases e : (stP ps j).1 = (stP ps i).1 ∧ (stP ps j).2 = (stP ps i).2
    · rw [if_pos e]
      by_cases ej : j = i
      · subst ej; split at hx <;> omega
      · have h4 := A.edge j h0 (by omega)
        rw [e.1, e.2] at h4
        split at hx <;> omega
    · rw [if_neg e]
      by_cases ej : j = i
      · subst ej; exact absurd ⟨rfl, rfl⟩ e
      · exact A.edge j h0 (by omega)
end
structure EdSt (keep : List Nat) (σ0 : SV) (H0 : Hp) (a : Addr) (rs : List Addr) (many far : Int) (ps : Prs) (w : Int → Int) (i : Int) (σ : SV) (H : Hp) : Prop where
  sl : ∀ j ∈ keep, σ[j]? = σ0[j]?
  ln : σ.length = σ0.length
  old : ∀ b, H0 b ≠ none → H b = H0 b
  mat : ∃ R, MatA H a rs R ∧ Ed many far ps w i R
section
variable {keep : List Nat} {σ0 σ : SV} {H0 H : Hp} {a : Addr} {rs : List Addr} {many far : Int} {ps : Prs} {w : Int → Int} {i : Int} {jf jo jv : Nat} {vw : ZV}
theorem EdSt.slot (A : EdSt keep σ0 H0 a rs many far ps w i σ H) {j : Nat} (hj : j ∉ keep) {o : Option V} : EdSt keep σ0 H0 a rs many far ps w i (σ.set j o) H :=
  ⟨fun i hi => by rw [List.getElem?_set_ne (fun z => hj (by rw [z]; exact hi))]; exact A.sl i hi, by rw [List.length_set]; exact A.ln, A.old, A.mat⟩
/-- what found[one][other] = min(found[one][other], weight) does -/
theorem EdSt.low (A : EdSt keep σ0 H0 a rs many far ps w i σ H) (kf : jf ∈ keep) (at_ : σ0[jf]? = some (some (.ref a))) (new : ∀ b ∈ a :: rs, H0 b = none) (inn : ∀ q ∈ ps, 0 ≤ q.1 ∧ q.1 < many ∧ 0 ≤ q.2 ∧ q.2 < many) (w0 : ∀ i, okS ps i → 0 ≤ w i) (hi : okS ps i)
    (ho : σ[jo]? = some (some (.int (stP ps i).1))) (hv : σ[jv]? = some (some (.int (stP ps i).2))) (hw : vw σ H (w i)) {Q : SV → Hp → Prop} (q : ∀ H', EdSt keep σ0 H0 a rs many far ps w (i + 1) σ H' → Q σ H') :
    ∃ (n : Int) (a r : Addr) (xs ys : List V) (i j : Int) (kk : Nat), (∃ p q, (∃ (a r : Addr) (xs ys : List V) (i j : Int), σ[jf]? = some (some (.ref a)) ∧ σ[jo]? = some (some (.int i)) ∧ σ[jv]? = some (some (.int j)) ∧ H a = some (.lst xs) ∧ L2.atI xs i = some (.ref r) ∧ H r = some (.lst ys) ∧ L2.atI ys j = some (.int p)) ∧ vw σ H q ∧ n = if q < p then q else p) ∧
      σ[jf]? = some (some (.ref a)) ∧ σ[jo]? = some (some (.int i)) ∧ σ[jv]? = some (some (.int j)) ∧ H a = some (.lst xs) ∧ L2.atI xs i = some (.ref r) ∧ H r = some (.lst ys) ∧ ixN ys.length j = some kk ∧ Q σ (upd H r (.lst (ys.set kk (.int n)))) := by
  obtain ⟨R, M, F⟩ := A.mat
  have hf : σ[jf]? = some (some (.ref a)) := (A.sl jf kf).trans at_
  obtain ⟨i0, i1, j0, j1⟩ := inn _ (stP_mem hi)
  obtain ⟨r1, y1, a1, a2, a3, a4, a5, a6, a7⟩ := M.read F.dim i0 i1 j0 j1
  obtain ⟨x, hx⟩ : ∃ x, x = if w i < entR R (stP ps i).1 (stP ps i).2 then w i else entR R (stP ps i).1 (stP ps i).2 := ⟨_, rfl⟩
  refine ⟨x, a, r1, _, _, _, _, (stP ps i).2.toNat, ⟨_, w i, ⟨a, r1, _, _, _, _, hf, ho, hv, a4, a5, a6, a7⟩, hw, hx⟩, hf, ho, hv, a4, a5, a6, ?_, ?_⟩
  · rw [List.length_map]
    exact ixN_in j0 (by omega)
  · refine q _ ⟨A.sl, A.ln, fun b hb => ?_, putR R (stP ps i).1 (stP ps i).2 x, M.put a1 a2, F.step inn w0 hi hx⟩
    have : b ≠ r1 := fun z => hb (z ▸ new r1 (List.mem_cons_of_mem _ (List.mem_of_getElem? a1)))
    rw [upd_ne this]
    exact A.old b hb
end
/-! ### there is a table of least sums -/
end DV
namespace DV
open PySem PySem.Spec L2
/-! ### tables of least sums as a def's result -/
def Ext (H H' : Hp) : Prop := ∀ b, H b ≠ none → H' b = H b
theorem Ext.same {Z H H' : Hp} (e : Ext H H') (s : Sub Z H) : Sub Z H' := ⟨fun a o h t => by
  have := s.th a o h t
  rw [e a (by rw [this]; simp)]
  exact this, fun a h => by rw [e a (s.al a h)]; exact s.al a h⟩
theorem Ext.trans {H H1 H2 : Hp} (a : Ext H H1) (b : Ext H1 H2) : Ext H H2 := fun c hc => by
  have := a c hc
  rw [b c (by rw [this]; exact hc), this]
theorem Ext.refl (H : Hp) : Ext H H := fun _ _ => rfl
theorem Ext.upd {H : Hp} {p : Addr} {o : HO} (h : H p = none) : Ext H (upd H p o) := fun b hb => upd_ne fun z => hb (z ▸ h)
section
variable {M : MC} {Z H : Hp} {v : V} {d : D}
theorem rps_ints : ∀ {l : List Int} {vs : List V}, Rps M Z vs (nums l) → vs = l.map V.int
  | [], _, r => by cases r; rfl
  | i :: l, _, r => by
    cases r with
    | cons h r =>
      cases h
      rw [rps_ints r]
      rfl
end
/-- what both tables need -/
structure TabOk (many : Int) (ps : Prs) (cs : List Int) : Prop where
  str : Str0 many ps
  m0 : 0 ≤ many
  m1 : many ≤ 1000
  len : cs.length = ps.length
  nn : ∀ c ∈ cs, 0 ≤ c
theorem nums_inj : ∀ {l l' : List Int}, nums l = nums l' → l = l'
  | [], [], _ => rfl
  | [], _ :: _, h => by cases h
  | _ :: _, [], h => by cases h
  | i :: l, j :: l', h => by
    have h1 := (List.cons.inj h).1
    have h2 : nums l = nums l' := (List.cons.inj h).2
    rw [D.int.inj h1, nums_inj h2]
theorem NumD.inj {d : D} {l l' : List Int} (h : NumD d l) (h' : NumD d l') : l = l' := by
  have h1 := h.seq
  rw [h'.seq] at h1
  exact (nums_inj (Option.some.inj h1)).symm
section
variable {M : MC} {W : WX} {Z H H' : Hp} {env : Ev} {σ σ' : SV} {D : Ends} {k : Nat} {ok : DV.D → DV.D → DV.D → Int → Prs → List Int → Prop}
end
end DV
namespace DV
open PySem PySem.Spec L2
/-! ### the defs that make tables of least sums: how they walk -/
section
variable {X : Cx} {pos : Pos}
end
end DV
namespace DV
open PySem PySem.Spec L2
/-! ### the defs that make tables of least sums -/
section
variable {X : Cx} {pos : Pos}
end
section
variable {K : PySem.W.Frag} {σ0 σ σ' : SV} {H0 H H' : Hp} {a : Addr} {rs : List Addr} {many far : Int} {ps : Prs} {w : Int → Int} {i : Int} {keep : List Nat}
/-- new things beside it -/
theorem EdSt.fresh (A : EdSt keep σ0 H0 a rs many far ps w i σ H) {p : Addr} {o : HO} (h : H p = none) : EdSt keep σ0 H0 a rs many far ps w i σ (upd H p o) := by
  obtain ⟨sl, ln, old, R, B, F⟩ := A
  have ne : ∀ {b : Addr} {u : HO}, H b = some u → b ≠ p := fun e z => by rw [z, h] at e; cases e
  refine ⟨sl, ln, fun b hb => ?_, R, ⟨by rw [upd_ne (ne B.out)]; exact B.out, B.len, B.nd, fun k r hr => ?_⟩, F⟩
  · have h1 := old b hb
    rw [upd_ne fun z => hb (by rw [← h1, z]; exact h)]
    exact h1
  · obtain ⟨l, h1, h2⟩ := B.row k r hr
    exact ⟨l, h1, by rw [upd_ne (ne h2)]; exact h2⟩
end
section
variable {M : MC} {Z H : Hp} {σ σ0 σ1 : SV} {H1 : Hp} {a : Addr} {rs : List Addr} {many far : Int} {ps : Prs} {cs : List Int}
end
end DV
namespace DV
open PySem PySem.Spec L2
/-! ### rings and the table of least sums -/
section
variable {many : Int} {ps : Prs} {w : Int → Int} {R : List (List Int)}
theorem TabIs.diag (A : TabIs many ps w R) (w0 : ∀ i, okS ps i → 0 ≤ w i) {u : Int} (u0 : 0 ≤ u) (u1 : u < many) : entR R u u = 0 := by
  obtain ⟨r, h1, h2⟩ := A.way u u u0 u1 u0 u1
  have := w_way w0 h1
  have h3 := A.le u u [] u0 u1 u0 u1 rfl
  simp at h3
  omega
theorem TabIs.nn (A : TabIs many ps w R) (w0 : ∀ i, okS ps i → 0 ≤ w i) {u v : Int} (u0 : 0 ≤ u) (u1 : u < many) (v0 : 0 ≤ v) (v1 : v < many) : 0 ≤ entR R u v := by
  obtain ⟨r, h1, h2⟩ := A.way u v u0 u1 v0 v1
  have := w_way w0 h1
  omega
theorem TabIs.edge (A : TabIs many ps w R) (inn : ∀ q ∈ ps, 0 ≤ q.1 ∧ q.1 < many ∧ 0 ≤ q.2 ∧ q.2 < many) {i : Int} (h : okS ps i) : entR R (stP ps i).1 (stP ps i).2 ≤ w i := by
  obtain ⟨a0, a1, b0, b1⟩ := inn _ (stP_mem h)
  have := A.le _ _ [i] a0 a1 b0 b1 (isW_one h)
  simpa using this
end
end DV
namespace DV
open PySem PySem.Spec L2
/-! ### pairs of works in the table of least sums -/
section
variable {many : Int} {ps : Prs} {w : Int → Int} {R : List (List Int)}
theorem sum_scale {K : Int} : ∀ l : List Int, (l.map fun i => K * w i - 1).sum = K * (l.map w).sum - l.length
  | [] => by simp
  | x :: l => by
    have := sum_scale (K := K) l
    simp only [List.map_cons, List.sum_cons, List.length_cons, this, Int.mul_add]
    omega
theorem TabIs.apart (A : TabIs many ps w R) (inn : ∀ q ∈ ps, 0 ≤ q.1 ∧ q.1 < many ∧ 0 ≤ q.2 ∧ q.2 < many) (m0 : 0 ≤ many) (hw : ∀ r, IsRing ps r → 1 ≤ (r.map w).sum) {a b : Int} (a0 : 0 ≤ a) (a1 : a < many) (b0 : 0 ≤ b) (b1 : b < many) (h : a ≠ b) : 1 ≤ entR R a b + entR R b a := by
  obtain ⟨r, h1, h2⟩ := A.way a b a0 a1 b0 b1
  obtain ⟨s, h3, h4⟩ := A.way b a b0 b1 a0 a1
  have hc : isW ps a (r ++ s) a := isW_app.mpr ⟨b, h1, h3⟩
  have hne : r ≠ [] := fun z => by subst z; exact h h1
  have := closed_ge (f := fun i => many * w i - 1) (fun S hS => by
    have h5 := hw S hS
    have h6 := hS.len inn m0
    rw [sum_scale]
    have h7 : many * 1 ≤ many * (S.map w).sum := Int.mul_le_mul_of_nonneg_left h5 m0
    omega) _ (Nat.le_refl _) hc
  rw [sum_scale, List.map_append, List.sum_append, List.length_append] at this
  have hl := List.length_pos_iff.mpr hne
  by_cases hz : (r.map w).sum + (s.map w).sum ≤ 0
  · have h7 : many * ((r.map w).sum + (s.map w).sum) ≤ many * 0 := Int.mul_le_mul_of_nonneg_left hz m0
    omega
  · omega
theorem TabIs.last (A : TabIs many ps w R) (inn : ∀ q ∈ ps, 0 ≤ q.1 ∧ q.1 < many ∧ 0 ≤ q.2 ∧ q.2 < many) {a b : Int} (a0 : 0 ≤ a) (a1 : a < many) (b0 : 0 ≤ b) (b1 : b < many) (h : a ≠ b) : ∃ i, okS ps i ∧ (stP ps i).2 = b ∧ entR R a (stP ps i).1 + w i ≤ entR R a b := by
  obtain ⟨r, h1, h2⟩ := A.way a b a0 a1 b0 b1
  have hne : r ≠ [] := fun z => by subst z; exact h h1
  obtain ⟨t, i, rfl⟩ : ∃ t i, r = t ++ [i] := ⟨r.dropLast, r.getLast hne, (List.dropLast_concat_getLast hne).symm⟩
  obtain ⟨m, h3, h4⟩ := isW_app.mp h1
  obtain ⟨h5, h6, h7⟩ := h4
  subst h6
  obtain ⟨c0, c1, _, _⟩ := inn _ (stP_mem h5)
  have := A.le _ _ t a0 a1 c0 c1 h3
  simp only [List.map_append, List.sum_append, List.map_cons, List.sum_cons, List.map_nil, List.sum_nil] at h2
  exact ⟨i, h5, h7, by omega⟩
end
end DV
namespace DV
open PySem PySem.Spec L2
/-! ### is True, is False; xs[::-1] of a list -/
section
variable {M : MC} {X : Cx} {W : WX}
def gIsB (d e : D) : Option R := match d, e with
  | .bl a, .bl b => some (.val (.bl (decide (a = b))))
  | _, _ => none
def gNotB (d e : D) : Option R := match d, e with
  | .bl a, .bl b => some (.val (.bl (!decide (a = b))))
  | _, _ => none
@[simp] theorem gIsB_eq {a b : Bool} : gIsB (.bl a) (.bl b) = some (.val (.bl (decide (a = b)))) := rfl
@[simp] theorem gNotB_eq {a b : Bool} : gNotB (.bl a) (.bl b) = some (.val (.bl (!decide (a = b)))) := rfl
def gRev (d : D) : Option R := match d with
  | .lst xs => some (.new xs.reverse)
  | _ => none
@[simp] theorem gRev_lst {xs : List D} : gRev (.lst xs) = some (.new xs.reverse) := rfl
end
end DV
namespace DV
open PySem PySem.Spec L2
/-! ### stores that are kept (thinned) -/
/-- dropped by another store or by another way -/
structure Drop (ps : Prs) (w : Int → Int) (R : List (List Int)) (s i : Int) : Prop where
  ok : okS ps i
  fill : (stP ps i).1 = (stP ps s).1
  way : ((stP ps i).2 = (stP ps s).2 ∧ (w i < w s ∨ (w i = w s ∧ i < s))) ∨ ((stP ps i).2 ≠ (stP ps s).1 ∧ (stP ps i).2 ≠ (stP ps s).2 ∧ w i + entR R (stP ps i).2 (stP ps s).2 ≤ w s)
section
variable {many : Int} {ps : Prs} {w : Int → Int} {R : List (List Int)}
theorem closed_pos (inn : ∀ q ∈ ps, 0 ≤ q.1 ∧ q.1 < many ∧ 0 ≤ q.2 ∧ q.2 < many) (m0 : 0 ≤ many) (hw : ∀ r, IsRing ps r → 1 ≤ (r.map w).sum) {c : List Int} {u : Int} (hc : isW ps u c u) (hne : c ≠ []) : 1 ≤ (c.map w).sum := by
  have := closed_ge (f := fun i => many * w i - 1) (fun S hS => by
    have h5 := hw S hS
    have h6 := hS.len inn m0
    rw [sum_scale]
    have h7 : many * 1 ≤ many * (S.map w).sum := Int.mul_le_mul_of_nonneg_left h5 m0
    omega) _ (Nat.le_refl _) hc
  rw [sum_scale] at this
  have hl := List.length_pos_iff.mpr hne
  by_cases hz : (c.map w).sum ≤ 0
  · have h7 : many * (c.map w).sum ≤ many * 0 := Int.mul_le_mul_of_nonneg_left hz m0
    omega
  · omega
end
end DV
namespace DV
open PySem PySem.Spec L2
/-! ### (a, b) < (c, d): tuples of ints -/
section
variable {M : MC}
def gLtT (d e : D) : Option R := match d, e with
  | .tup xs, .tup ys => match allOf D.int? xs, allOf D.int? ys with
    | some ns, some ms => some (.val (.bl (HT.lexLt ns ms)))
    | _, _ => none
  | _, _ => none
@[simp] theorem gLtT_pair {a b c d : Int} : gLtT (.tup [.int a, .int b]) (.tup [.int c, .int d]) = some (.val (.bl (if a = c then decide (b < d) else decide (a < c)))) := by
  have h1 : allOf D.int? [D.int a, D.int b] = some [a, b] := allOf_ints (l := [a, b])
  have h2 : allOf D.int? [D.int c, D.int d] = some [c, d] := allOf_ints (l := [c, d])
  unfold gLtT
  simp only [h1, h2]
  by_cases e : a = c
  · subst e
    by_cases e2 : b = d
    · subst e2; simp [HT.lexLt]
    · simp [HT.lexLt, e2]
  · simp [HT.lexLt, e]
end
end DV
namespace DV
open PySem PySem.Spec L2
/-! ### a net of some of the stores, told by their numbers -/
def subPs (ps : Prs) (kl : List Int) : Prs := kl.map (stP ps)
def subCs (cs kl : List Int) : List Int := kl.map (nameF cs)
section
variable {many : Int} {ps : Prs} {cs kl : List Int} {R : List (List Int)}
theorem sub_len : (subPs ps kl).length = kl.length := by simp [subPs]
theorem sub_at {i : Int} (ok : okS (subPs ps kl) i) : stP (subPs ps kl) i = stP ps (nameF kl i) ∧ nameF kl i ∈ kl := by
  have h1 : i < kl.length := by have := ok.2; rw [sub_len] at this; exact this
  have h0 := ok.1
  have hi : i.toNat < kl.length := by omega
  have e : kl[i.toNat]? = some kl[i.toNat] := List.getElem?_eq_getElem hi
  rw [nameF_get e]
  refine ⟨?_, List.getElem_mem hi⟩
  show ((kl.map (stP ps))[i.toNat]?).getD (0, 0) = _
  rw [List.getElem?_map, e]
  rfl
theorem sub_w {i : Int} (ok : okS (subPs ps kl) i) : nameF (subCs cs kl) i = nameF cs (nameF kl i) := by
  have h1 : i < kl.length := by have := ok.2; rw [sub_len] at this; exact this
  have h0 := ok.1
  have hi : i.toNat < kl.length := by omega
  have e : kl[i.toNat]? = some kl[i.toNat] := List.getElem?_eq_getElem hi
  rw [nameF_get e]
  refine nameF_get ?_
  unfold subCs
  rw [List.getElem?_map, e]
  rfl
/-- a way of it is a way of the net -/
theorem sub_way (hk : ∀ k ∈ kl, okS ps k) : ∀ {r : List Int} {u v : Int}, isW (subPs ps kl) u r v → isW ps u (r.map (nameF kl)) v ∧ ((r.map (nameF kl)).map (nameF cs)).sum = (r.map (nameF (subCs cs kl))).sum ∧ ∀ j ∈ r.map (nameF kl), j ∈ kl
  | [], u, v, h => ⟨h, rfl, by simp⟩
  | i :: r, u, v, h => by
    obtain ⟨h1, h2, h3⟩ := h
    obtain ⟨e, hm⟩ := sub_at h1
    obtain ⟨g1, g2, g3⟩ := sub_way hk h3
    rw [e] at h2
    rw [e] at g1
    refine ⟨⟨hk _ hm, h2, g1⟩, ?_, fun j hj => ?_⟩
    · simp only [List.map_cons, List.sum_cons, g2, sub_w h1]
    · rcases List.mem_cons.mp hj with z | z
      · rw [z]; exact hm
      · exact g3 j z
/-- a way of the net on these stores is a way of it -/
theorem sub_back : ∀ {r : List Int} {u v : Int}, isW ps u r v → (∀ i ∈ r, i ∈ kl) → ∃ r', isW (subPs ps kl) u r' v ∧ r'.map (nameF kl) = r
  | [], u, v, h, _ => ⟨[], h, rfl⟩
  | i :: r, u, v, h, hm => by
    obtain ⟨h1, h2, h3⟩ := h
    obtain ⟨r', g1, g2⟩ := sub_back h3 fun j hj => hm j (List.mem_cons_of_mem _ hj)
    obtain ⟨n, hn, e⟩ := List.getElem_of_mem (hm i List.mem_cons_self)
    have hx : nameF kl (n : Int) = i := by
      rw [← e]
      exact nameF_get (by rw [Int.toNat_natCast, List.getElem?_eq_getElem hn])
    have ok : okS (subPs ps kl) (n : Int) := ⟨by omega, by rw [sub_len]; omega⟩
    obtain ⟨e2, _⟩ := sub_at ok
    rw [hx] at e2
    refine ⟨(n : Int) :: r', ⟨ok, by rw [e2]; exact h2, by rw [e2]; exact g1⟩, by rw [List.map_cons, hx, g2]⟩
theorem way_rch' {qs : Prs} : ∀ {r : List Int} {u v : Int}, isW qs u r v → Rch qs u v
  | [], u, v, h => by
    have h : u = v := h
    subst h
    exact .refl _
  | i :: r, u, v, h => by
    obtain ⟨h1, h2, h3⟩ := h
    have := stP_mem h1
    refine Rch.trans (Rch.one (b := (stP qs i).2) ?_) (way_rch' h3)
    rw [← h2]
    exact this
/-- what the table of the net of the kept stores is -/
theorem sub_tab (S : Str0 many ps) (hk : ∀ k ∈ kl, okS ps k) (A : TabIs many ps (nameF cs) R) (hw : ∀ u v, 0 ≤ u → u < many → 0 ≤ v → v < many → ∃ r, isW ps u r v ∧ (r.map (nameF cs)).sum = entR R u v ∧ ∀ i ∈ r, i ∈ kl) (m0 : 0 < many) :
    Str0 many (subPs ps kl) ∧ TabIs many (subPs ps kl) (nameF (subCs cs kl)) R := by
  have back : ∀ u v, 0 ≤ u → u < many → 0 ≤ v → v < many → ∃ r', isW (subPs ps kl) u r' v ∧ (r'.map (nameF (subCs cs kl))).sum = entR R u v := fun u v u0 u1 v0 v1 => by
    obtain ⟨r, h1, h2, h3⟩ := hw u v u0 u1 v0 v1
    obtain ⟨r', g1, g2⟩ := sub_back h1 h3
    refine ⟨r', g1, ?_⟩
    rw [← (sub_way (cs := cs) hk g1).2.1, g2, h2]
  refine ⟨⟨fun q hq => ?_, fun v v0 v1 => ?_, fun v v0 v1 => ?_⟩, A.dim, fun u v u0 u1 v0 v1 => back u v u0 u1 v0 v1, fun u v r u0 u1 v0 v1 hr => ?_⟩
  · obtain ⟨k, h1, rfl⟩ := List.mem_map.mp hq
    exact S.inn _ (stP_mem (hk k h1))
  · obtain ⟨r, h1, _⟩ := back 0 v (by omega) m0 v0 v1
    exact way_rch' h1
  · obtain ⟨r, h1, _⟩ := back v 0 v0 v1 (by omega) m0
    exact way_rch' h1
  · obtain ⟨g1, g2, _⟩ := sub_way (cs := cs) hk hr
    rw [← g2]
    exact A.le u v _ u0 u1 v0 v1 g1
end
end DV
namespace DV
open PySem PySem.Spec L2
/-! ### while, with a return -/
/-! ### another way, searched -/
def workL (ps : Prs) (one : Int) (x : List Int) : List Int := fillL ps x ++ [endW ps one x]
structure WayO (ps : Prs) (w : Int → Int) (th : List Int) (one other B : Int) (x : List Int) : Prop where
  way : isW ps one x (endW ps one x)
  nd : (workL ps one x).Nodup
  no : other ∉ workL ps one x
  on : ∀ i ∈ x, i ∈ th
  le : (x.map w).sum ≤ B
def stepsO (ps : Prs) (w : Int → Int) (th : List Int) (one B : Int) (x : List Int) : List Int := th.filter fun i => decide ((stP ps i).1 = endW ps one x) && decide ((x.map w).sum + w i ≤ B)
def kidsO (ps : Prs) (one : Int) (x l : List Int) : List (List Int) := (l.filter fun i => !decide ((stP ps i).2 ∈ workL ps one x)).map fun i => x ++ [i]
section
variable {ps : Prs} {w : Int → Int} {th : List Int} {one other B many : Int} {x : List Int}
theorem WayO.nil (h : one ≠ other) (hB : 0 ≤ B) : WayO ps w th one other B [] := ⟨rfl, by simp [workL, fillL], by simp [workL, fillL, endW]; exact fun z => h z.symm, by simp, by simpa using hB⟩
theorem WayO.hit (P : WayO ps w th one other B x) (hth : ∀ i ∈ th, okS ps i) {i : Int} (hi : i ∈ stepsO ps w th one B x) (h : (stP ps i).2 = other) : isW ps one (x ++ [i]) other ∧ ((x ++ [i]).map w).sum ≤ B ∧ ∀ j ∈ x ++ [i], j ∈ th := by
  obtain ⟨h3, h4⟩ := List.mem_filter.mp hi
  rw [Bool.and_eq_true, decide_eq_true_eq, decide_eq_true_eq] at h4
  obtain ⟨h4, h5⟩ := h4
  refine ⟨isW_snoc.mpr ⟨by rw [h4]; exact P.way, hth i h3, h⟩, by rw [List.map_append, List.sum_append]; simpa using h5, fun j hj => ?_⟩
  rcases List.mem_append.mp hj with z | z
  · exact P.on j z
  · rw [List.mem_singleton] at z
    rw [z]
    exact h3
/-- a way that the search has still to find -/
structure GoalO (ps : Prs) (w : Int → Int) (th : List Int) (one other B : Int) (r : List Int) : Prop where
  way : isW ps one r other
  nd : (fillL ps r).Nodup
  on : ∀ i ∈ r, i ∈ th
  le : (r.map w).sum ≤ B
theorem GoalO.next {t : List Int} (w0 : ∀ i ∈ th, 0 ≤ w i) (P : WayO ps w th one other B x) (G : GoalO ps w th one other B (x ++ t)) : ∃ e ∈ stepsO ps w th one B x, ((stP ps e).2 = other ∨ (x ++ [e]) ∈ kidsO ps one x (stepsO ps w th one B x) ∧ ∃ t', t = e :: t') := by
  obtain ⟨m, h1, h2⟩ := isW_app.mp G.way
  have hm := isW_end h1
  subst hm
  cases t with
  | nil =>
    have h2 : endW ps one x = other := h2
    exact absurd (by unfold workL; simp [h2]) P.no
  | cons e t' =>
    obtain ⟨o1, o2, o3⟩ := h2
    have he : e ∈ stepsO ps w th one B x := by
      refine List.mem_filter.mpr ⟨G.on e (by simp), ?_⟩
      rw [Bool.and_eq_true, decide_eq_true_eq, decide_eq_true_eq]
      refine ⟨o2, ?_⟩
      have h3 := G.le
      rw [List.map_append, List.sum_append, List.map_cons, List.sum_cons] at h3
      have h4 : 0 ≤ (t'.map w).sum := sum_nn' fun i hi => w0 i (G.on i (by simp [hi]))
      omega
    refine ⟨e, he, ?_⟩
    cases t' with
    | nil => exact .inl o3
    | cons f t'' =>
      obtain ⟨o4, o5, o6⟩ := o3
      refine .inr ⟨?_, _, rfl⟩
      refine List.mem_map.mpr ⟨e, List.mem_filter.mpr ⟨he, ?_⟩, rfl⟩
      rw [Bool.not_eq_true', decide_eq_false_iff_not]
      have nd := G.nd
      rw [show x ++ e :: f :: t'' = x ++ [e] ++ (f :: t'') by simp, fill_app, fill_snoc, o2] at nd
      have nd3 := (List.nodup_append.mp nd).2.2
      have hf : (stP ps e).2 ∈ fillL ps (f :: t'') := by
        rw [← o5]
        simp [fillL]
      exact fun hx => nd3 _ hx _ hf rfl
theorem endW_in (inn : ∀ q ∈ ps, 0 ≤ q.1 ∧ q.1 < many ∧ 0 ≤ q.2 ∧ q.2 < many) (o0 : 0 ≤ one) (o1 : one < many) (hx : ∀ i ∈ x, okS ps i) : 0 ≤ endW ps one x ∧ endW ps one x < many := by
  rcases List.eq_nil_or_concat x with rfl | ⟨y, i, rfl⟩
  · exact ⟨o0, o1⟩
  · rw [List.concat_eq_append, endW_snoc]
    have := inn _ (stP_mem (hx i (by simp)))
    exact this.2.2
theorem WayO.len (inn : ∀ q ∈ ps, 0 ≤ q.1 ∧ q.1 < many ∧ 0 ≤ q.2 ∧ q.2 < many) (o0 : 0 ≤ one) (o1 : one < many) (P : WayO ps w th one other B x) : (x.length : Int) + 1 ≤ many := by
  have := nodup_len P.nd (many := many) (fun v hv => by
    rcases List.mem_append.mp hv with z | z
    · obtain ⟨i, hi, rfl⟩ := List.mem_map.mp z
      have := inn _ (stP_mem (isW_ok P.way i hi))
      exact ⟨this.1, this.2.1⟩
    · rw [List.mem_singleton] at z
      rw [z]
      exact endW_in inn o0 o1 (isW_ok P.way)) (by omega)
  unfold workL at this
  rw [List.length_append, fill_len, List.length_singleton] at this
  omega
end
end DV
namespace DV
open PySem PySem.Spec L2 PyProof.Rows
/-! ### sorted(set(xs)) of a list of ints -/
section
variable {P : Program} {w : World} {A : Around} {E : Value → Shared → Prop} {s : Shared}
end
end DV
namespace DV
open PySem PySem.Spec L2
/-! ### the members, rising, once each -/
def insS (k : Int) : List Int → List Int
  | [] => [k]
  | x :: l => if k < x then k :: x :: l else if k = x then x :: l else x :: insS k l
def ssN (ns : List Int) : List Int := ns.foldr insS []
/-! ### sorted(set(xs)) -/
def sortSet (d : D) : Option R := match d with
  | .lst xs => match allOf D.int? xs with
    | some ns => if ns.length < 64 then some (.new (nums (ssN ns))) else none
    | none => none
  | _ => none
@[simp] theorem sortSet_nums {ns : List Int} (h : ns.length < 64) : sortSet (.lst (nums ns)) = some (.new (nums (ssN ns))) := by
  unfold sortSet
  simp only [allOf_ints, h, if_true]
end DV
namespace DV
open PySem PySem.Spec L2
/-! ### the program's refusals: made and raised -/
/-- what the top has written of the base class -/
structure RErr (K : PySem.W.Frag) (mg : Str → Option Value) : Prop where
  ex : ∃ R, mg "RingError" = some (.ref R) ∧ PySem.W.specialIn K (.ref R) "__getattribute__" = some (some (.builtin "type.__getattribute__")) ∧ PySem.W.typeIn K (.ref R) = some (.type "type") ∧ PySem.W.readsIn K R (.type "type") = true ∧
    PySem.W.findCls K (.ref R) (.type "type") "__init__" = some (.val (.builtin "ValueError.__init__"))
section
variable {X : Cx} {e : Expr} {es : List Expr} {ta : TA} {p1 p2 pos : Pos}
/-- RingError.__init__(self, ..) -/
theorem pe_reinit {pl : Sem Bool} (hg : Gl X "RingError") (RE : RErr X.K X.mg) (ha : PA X (e :: es) ta)
    (hc : eval (.Call (.Attribute (.Name "RingError" p1) "__init__" p2) (e :: es) [] pos) X.env = (do
      let ov ← eval (.Name "RingError" p1) X.env
      standAt p2.atName
      let (f, first) ← holding [ov] (getMethod ov "__init__" pl)
      callWith pos f first (backTo pos (starEach (e :: es) X.env)) (backToKw pos (keywordEach [] X.env))) := by rfl)
    (he : starEach (e :: es) X.env = (false, eval e X.env) :: starEach es X.env := by rfl) (hpl : (backTo pos (starEach es X.env)).any (·.1) = false := by rfl) :
    PE X (.Call (.Attribute (.Name "RingError" p1) "__init__" p2) (e :: es) [] pos) (tVeI X.K ta) := by
  obtain ⟨R, hm, g1, g2, g3, g4⟩ := RE.ex
  refine ⟨fun pins s σ H Q I h => ?_⟩
  refine PySem.W.methodCall_KW (ld_glob I hg hm ?_ (by decide)) hc
  obtain ⟨m, fr⟩ := I.fr
  refine PySem.W.method_of_cls fr I.ok.mod.kin g1 (PySem.W.cls_val fr I.ok.mod.kin g2 g3 g4 (by decide +kernel) ?_)
  show wpAny _ _ (callWith pos (Value.builtin "ValueError.__init__") [] (backTo pos (starEach (e :: es) X.env)) []) _ _ _
  refine PyProof.Rows.callWith_method1 (thn (ha.run pos pins _ σ H _ (I.tok _) h) fun us s1 ⟨vs, H1, I1, r1, a, C, ws, ev, hl, T, ea, q⟩ => ?_) he hpl
  subst ev
  cases r1 with
  | @cons _ u0 _ ur ra rw' =>
    obtain rfl : u0 = Value.ref a := ra
    have hlen : ur.length ≤ sizeLine := by
      rw [← Paired.length rw', sizeLine_eq]
      omega
    exact oinit_ok T I1 ea hlen fun s' J => ⟨.non, H1, J, rfl, q⟩
end
/-- what the top has written of a refusal's class -/
structure ErrC (K : PySem.W.Frag) (mg : Str → Option Value) (c : Str) (ks : List Str) (C f : Addr) : Prop where
  mg : mg c = some (.ref C)
  oex : OexC K C
  init : PySem.W.findIn K (.ref C) "__init__" = some (some (.ref f))
  fn : PySem.W.typeIn K (.ref f) = some (.type "function")
  no : ∀ k ∈ ks, PySem.W.findIn K (.ref C) k = some none
/-- the promise of a refusal's __init__ -/
def spErr (K : PySem.W.Frag) (C : Addr) (ks : List Str) : Sp := fun vs H Q _ => ∃ (a : Addr) (ws : List V), vs = .ref a :: ws ∧ ws.length = ks.length ∧ H a = some (exo a C none) ∧
  ∀ d H2, d ≠ a → H d = none → H2 a = some (exo a C (some d)) → H2 d = some (exd d (ks.zip ws).reverse) → (∀ b, b ≠ a → b ≠ d → H2 b = H b) → Q .non H2
section
variable {P : Program} {w : World} {K : PySem.W.Frag} {mg : Str → Option Value} {base : Heap}
/-- an __init__ with one field -/
theorem err_init1 {k1 qual m : Str} {c : Str} {C f : Addr} {fd : FuncData} {st : Stmt} {k : Nat} (E : ErrC K mg c [k1] C f) (RE : RErr K mg) (F : Fun K "__init__" qual st f fd) (S : FnScope ["self", k1] ["self", k1] (defScope st))
    (h : ∀ (cdv : Value) (A : Around) (outer : List Env) (s : Shared) (H : Hp) (E : XK), ∀ X : Cx, X = cxOf (L2N.CX P w) P w K mg base ["self", k1] qual (defScope st) f cdv A outer s H E →
      ∃ e0 p5 o1 y1 b1 c1, defBody st = [.Expr e0 p5, .Assign [.Attribute o1 k1 b1] y1 c1] ∧
        PE X e0 (tVeI K (tCons (tVar 0) (tCons (tC (.str m)) tNil))) ∧ PE X o1 (tVar 0) ∧ PE X y1 (tVar 1) ∧ swapsWith e0 none p5.line X.env = pure false ∧ swapsWith y1 (some (.Attribute o1 k1 b1)) c1.line X.env = pure false) :
    FnOk P w K mg base (L2N.CX P w) (k + 1) f fd ["self", k1] (spErr K C [k1]) := by
  refine okN F S (fun vs H Q E ⟨a, ws, e1, e2, _⟩ => by rw [e1, List.length_cons, e2]; rfl) fun cdv A outer s H vs Q E' hr ⟨a, ws, e1, e2, ha, q⟩ => ?_
  obtain ⟨e0, p5, o1, y1, b1, c1, hb, d0, d1, d2, sw0, sw1⟩ := h cdv A outer s H E' _ rfl
  rw [hb]
  refine ⟨_, pss_cons (ps_expr d0 sw0) (pss_one (ps_ost d1 d2 sw1)), ?_⟩
  subst e1
  obtain ⟨w1, rfl⟩ : ∃ w1, ws = [w1] := by
    match ws, e2 with
    | [w1], _ => exact ⟨w1, rfl⟩
  refine ⟨.ref a, rfl, a, C, [.str m], rfl, by simp, E.oex, ha, ?_⟩
  refine ⟨w1, rfl, .ref a, rfl, a, C, rfl, E.oex, E.no k1 (by simp), .inl ⟨ha, fun d hd hne => ?_⟩⟩
  refine q d _ hne hd upd_same (by rw [upd_ne hne, upd_same]; rfl) fun b h1 h2 => by rw [upd_ne h1, upd_ne h2]
/-- an __init__ with three fields -/
theorem err_init3 {k1 k2 k3 qual m : Str} {c : Str} {C f : Addr} {fd : FuncData} {st : Stmt} {k : Nat} (E : ErrC K mg c [k1, k2, k3] C f) (RE : RErr K mg) (F : Fun K "__init__" qual st f fd) (S : FnScope ["self", k1, k2, k3] ["self", k1, k2, k3] (defScope st))
    (h : ∀ (cdv : Value) (A : Around) (outer : List Env) (s : Shared) (H : Hp) (E : XK), ∀ X : Cx, X = cxOf (L2N.CX P w) P w K mg base ["self", k1, k2, k3] qual (defScope st) f cdv A outer s H E →
      ∃ e0 p5 o1 y1 b1 c1 o2 y2 b2 c2 o3 y3 b3 c3, defBody st = [.Expr e0 p5, .Assign [.Attribute o1 k1 b1] y1 c1, .Assign [.Attribute o2 k2 b2] y2 c2, .Assign [.Attribute o3 k3 b3] y3 c3] ∧
        PE X e0 (tVeI K (tCons (tVar 0) (tCons (tC (.str m)) tNil))) ∧ PE X o1 (tVar 0) ∧ PE X y1 (tVar 1) ∧ PE X o2 (tVar 0) ∧ PE X y2 (tVar 2) ∧ PE X o3 (tVar 0) ∧ PE X y3 (tVar 3) ∧
        swapsWith e0 none p5.line X.env = pure false ∧ swapsWith y1 (some (.Attribute o1 k1 b1)) c1.line X.env = pure false ∧ swapsWith y2 (some (.Attribute o2 k2 b2)) c2.line X.env = pure false ∧ swapsWith y3 (some (.Attribute o3 k3 b3)) c3.line X.env = pure false) :
    FnOk P w K mg base (L2N.CX P w) (k + 1) f fd ["self", k1, k2, k3] (spErr K C [k1, k2, k3]) := by
  refine okN F S (fun vs H Q E ⟨a, ws, e1, e2, _⟩ => by rw [e1, List.length_cons, e2]; rfl) fun cdv A outer s H vs Q E' hr ⟨a, ws, e1, e2, ha, q⟩ => ?_
  obtain ⟨e0, p5, o1, y1, b1, c1, o2, y2, b2, c2, o3, y3, b3, c3, hb, d0, d1, d1', d2, d2', d3, d3', sw0, sw1, sw2, sw3⟩ := h cdv A outer s H E' _ rfl
  rw [hb]
  refine ⟨_, pss_cons (ps_expr d0 sw0) (pss_cons (ps_ost d1 d1' sw1) (pss_cons (ps_ost d2 d2' sw2) (pss_one (ps_ost d3 d3' sw3)))), ?_⟩
  subst e1
  obtain ⟨w1, w2, w3, rfl⟩ : ∃ w1 w2 w3, ws = [w1, w2, w3] := by
    match ws, e2 with
    | [w1, w2, w3], _ => exact ⟨w1, w2, w3, rfl⟩
  refine ⟨.ref a, rfl, a, C, [.str m], rfl, by simp, E.oex, ha, ?_⟩
  refine ⟨w1, rfl, .ref a, rfl, a, C, rfl, E.oex, E.no k1 (by simp), .inl ⟨ha, fun d hd hne => ?_⟩⟩
  refine ⟨w2, rfl, .ref a, rfl, a, C, rfl, E.oex, E.no k2 (by simp), .inr ⟨d, [(k1, w1)], upd_same, by rw [upd_ne hne, upd_same], by simp, ?_⟩⟩
  refine ⟨w3, rfl, .ref a, rfl, a, C, rfl, E.oex, E.no k3 (by simp), .inr ⟨d, [(k2, w2), (k1, w1)], by rw [upd_ne (Ne.symm hne), upd_same], upd_same, by simp, ?_⟩⟩
  refine q d _ hne hd (by rw [upd_ne (Ne.symm hne), upd_ne (Ne.symm hne), upd_same]) (by rw [upd_same]; rfl) fun b h1 h2 => by rw [upd_ne h2, upd_ne h2, upd_ne h1, upd_ne h2]
end
/-! ### raise -/
def valsOf : List R → Option (List D)
  | [] => some []
  | .val d :: rs => (valsOf rs).map (d :: ·)
  | _ => none
def kRaise (c : Str) (ks : List Str) (rs : List R) (e : Ev) : Out Fl := match valsOf rs with
  | some ds => if ds.length = ks.length then .exn ⟨c, ks.reverse, ds.reverse⟩ e else .bad
  | none => .bad
def sRaise (c : Str) (ks : List Str) (t : SL) : SS := fun env => (t env).bind (kRaise c ks)
@[simp] theorem sRaise_eq {c : Str} {ks : List Str} {t : SL} {e : Ev} : sRaise c ks t e = (t e).bind (kRaise c ks) := Eq.trans rfl rfl
@[simp] theorem valsOf_nil : valsOf [] = some [] := Eq.trans rfl rfl
@[simp] theorem valsOf_cons {d : D} {rs : List R} : valsOf (.val d :: rs) = (valsOf rs).map (d :: ·) := Eq.trans rfl rfl
theorem kRaise_val {c : Str} {ks : List Str} {rs : List R} {ds : List D} {e : Ev} (h : valsOf rs = some ds) (hl : ds.length = ks.length) : kRaise c ks rs e = .exn ⟨c, ks.reverse, ds.reverse⟩ e := by
  unfold kRaise
  rw [h]
  simp only
  rw [if_pos hl]
@[simp] theorem kRaise1 {c k1 : Str} {d : D} {e : Ev} : kRaise c [k1] [.val d] e = .exn ⟨c, [k1], [d]⟩ e := kRaise_val (ds := [d]) rfl rfl
@[simp] theorem kRaise3 {c k1 k2 k3 : Str} {d1 d2 d3 : D} {e : Ev} : kRaise c [k1, k2, k3] [.val d1, .val d2, .val d3] e = .exn ⟨c, [k3, k2, k1], [d3, d2, d1]⟩ e := kRaise_val (ds := [d1, d2, d3]) rfl rfl
/-- a refusal's class can be made -/
structure ErrOk (P : Program) (w : World) (K : PySem.W.Frag) (mg : Str → Option Value) (base : Heap) (k : Nat) (c : Str) (ks : List Str) : Prop where
  ex : ∃ C f fd, ErrC K mg c ks C f ∧ Binds K fd ("self" :: ks) [] ∧ FnOk P w K mg base (L2N.CX P w) k f fd ("self" :: ks) (spErr K C ks)
theorem rrs_vals {M : MC} {Z H H0 : Hp} {e : Ev} {σ : SV} : ∀ {rs : List R} {vs : List V} {ds : List D}, RRs M Z H e σ H0 vs rs → valsOf rs = some ds → Rps M Z vs ds
  | [], [], ds, _, h => by cases h; exact .nil
  | .val d :: rs, v :: vs, ds, ⟨h1, _, h3⟩, h => by
    rw [valsOf_cons] at h
    cases q : valsOf rs with
    | none => rw [q] at h; cases h
    | some es =>
      rw [q] at h
      cases h
      exact .cons h1 (rrs_vals h3 q)
  | .new _ :: _, _ :: _, _, _, h => by cases h
  | .at _ :: _, _ :: _, _, _, h => by cases h
theorem Rps.reverse {M : MC} {Z : Hp} : ∀ {vs : List V} {ds : List D}, Rps M Z vs ds → Rps M Z vs.reverse ds.reverse
  | _, _, .nil => .nil
  | _, _, .cons h r => by
    rw [List.reverse_cons, List.reverse_cons]
    exact r.reverse.append (.cons h .nil)
theorem zip_rev : ∀ {ks : List Str} {vs : List V}, ks.length = vs.length → (ks.zip vs).reverse = ks.reverse.zip vs.reverse
  | [], [], _ => rfl
  | k :: ks, v :: vs, h => by
    have h : ks.length = vs.length := by simpa using h
    rw [List.zip_cons_cons, List.reverse_cons, zip_rev h, List.reverse_cons, List.reverse_cons, List.zip_append (by simp [h])]
    rfl
/-- C(e, ..), C a class with an __init__ of its own: what is made has no context -/
theorem pmk_made {X : Cx} {e : Expr} {es : List Expr} {ta : TA} {p pos : Pos} {x : Str} {C fI : Addr} {k : Nat} {fd : FuncData} {ps : List Str} {sp : Sp} (T : OexC X.K C) (iC : PySem.W.findIn X.K (.ref C) "__init__" = some (some (.ref fI))) (tI : PySem.W.typeIn X.K (.ref fI) = some (.type "function"))
    (F1 : FnOk X.prog X.w X.K X.mg X.base (L2N.CX X.prog X.w) k fI fd ps sp) (hr : Room (k + 1) X.A) (hb : Binds X.K fd ps []) (hg : Gl X x) (hm : X.mg x = some (.ref C)) (ha : PA X (e :: es) ta)
    (hdb : (x == ("__debug__" : Str)) = false := by decide) (he : starEach (e :: es) X.env = (false, eval e X.env) :: starEach es X.env := by rfl) (hpl : (backTo pos (starEach es X.env)).any (·.1) = false := by rfl) :
    L2N.PMk X (.Call (.Name x p) (e :: es) [] pos) (tMkO C sp [] ta) := by
  intro pins s σ H Q I h
  obtain ⟨_, _, _, _, bm, _, _, _, _, _, _, _, _, _, _, hC, hbm⟩ := T.cls
  refine wpAny_Call_Name_kw (ld_glob I hg hm ?_ hdb)
  refine PySem.W.callWith_K (h₀ := X.base) I.ok.mod.kin T.kC (thn (ha.run pos pins s σ H _ I h) fun us s1 ⟨vs, H1, I1, r1, hz, q1⟩ => ⟨I1.kIn, ?_⟩) he hpl
  show wpAny _ _ (call (.ref C) us) _ _ _
  obtain ⟨hp, g, dr, tk, os⟩ := s1
  generalize hn : hp.objs.size + 1 = n
  have hle : hp.objs.size ≤ n := by omega
  have hq := q1 n (I1.hok.fresh hle)
  rw [List.append_nil] at hq
  have kk : ∀ b o, hp.get? b = some o → ((hp.push (PySem.W.kdv_tup us)).push (PySem.HandSPX.excO C hp.objs.size)).get? b = some o := fun b o e => Heap.get?_push_of_some _ (Heap.get?_push_of_some _ e)
  have hget : ((hp.push (PySem.W.kdv_tup us)).push (PySem.HandSPX.excO C hp.objs.size)).get? n = some (PySem.HandSPX.excO C hp.objs.size) := by rw [← hn]; heap_get
  have I2 := I1.laid (t' := tk) (a := n) (o := exo n C none) kk hle (exo_ok hget)
  have r2 : Vals (V.ref n :: vs) (Value.ref n :: us) := .cons rfl r1
  have hl : (Value.ref n :: us).length = ps.length := r2.length.symm.trans (F1.len _ _ _ _ hq)
  have b2 := hb _ (Value.ref n :: us) I2.kIn (by rw [List.append_nil]; exact hl)
  rw [List.append_nil] at b2
  have hus : us.length ≤ sizeLine := by
    rw [← Paired.length r1, sizeLine_eq]
    omega
  refine wpAny_call (PySem.HandSPX.call_own F.excBase_ValueError (fun Y => PySem.HandSPX.refsVE_contains Y bm hbm) (I1.kIn _ _ hC) (PySem.W.looks_findIn I1.kIn iC) (fun self => PySem.W.bind_fn I1.kIn self tI) hus ?_)
  rw [hn]
  refine codeAny_mono (F1.run _ X.stack _ _ ⟨Value.ref n :: us, []⟩ (Value.ref n :: us) _ _ (fun _ _ _ => False) (hr.make C us []) (I2.env0.make C us []) b2 r2 hq) fun r s' hq' => ?_
  cases r with
  | error er =>
    obtain ⟨a, B, H', cls, d, _, _, _, _, _, _, _, z⟩ := hq'
    exact z.elim
  | ok fl =>
    cases fl with
    | ret u =>
      obtain ⟨v, H2, os2, bare2, un2, hok2, rv, ev, d, fs, ea, ed, hd1, q2⟩ := hq'
      subst ev
      obtain ⟨h2, g2, d2, t2, os'⟩ := s'
      obtain ⟨t0, G, J, kG, ge, hoe, na⟩ := mk_end0 (d2 := d2) (t2 := t2) I1 hle kk un2 hok2 os2 bare2 ea ed hd1
      exact ⟨rv, n, _, _, ⟨G, g2, d2, t2, os'⟩, _, .ref C, some d, rfl, J, kG, ge, hoe, ⟨rfl, rfl, fun vs hv => by cases hv; rfl⟩, rfl, rfl, na, rfl, bare2, raises_own T.exC T.tyC, q2⟩
    | next => exact False.elim hq'
    | brk => exact False.elim hq'
    | cont => exact False.elim hq'
section
variable {X : Cx} {W : WX} {k : Nat} {c : Str} {ks : List Str} {p pos pos' : Pos} {e : Expr} {es : List Expr} {t : SL}
theorem ds_raise (G : ErrOk X.prog X.w X.K X.mg X.base k c ks) (hr : Room (k + 1) X.A) (tk : L2N.Takes X W) (ha : DA W X (e :: es) t) (hks : ks.length ≤ 1000 := by decide)
    (hc : X.calm = true := by rfl) (hg : Gl X c := by rfl) (hdb : (c == ("__debug__" : Str)) = false := by decide) (he : starEach (e :: es) X.env = (false, eval e X.env) :: starEach es X.env := by rfl) (hpl : (backTo pos (starEach es X.env)).any (·.1) = false := by rfl) :
    DS W X (.Raise (some (.Call (.Name c p) (e :: es) [] pos)) none pos') (sRaise c ks t) := by
  obtain ⟨C, f, fd, E, hb, ok⟩ := G.ex
  refine weakS (L2N.ps_raise hc tk (pmk_made E.oex E.init E.fn ok hr hb hg E.mg ha hdb he hpl)) fun D σ H ⟨Z, env, rep, h⟩ => ?_
  have h : PostS (mc X) W Z H env σ ((t env).bind (kRaise c ks)) D := h
  refine ⟨Z, env, rep, ?_⟩
  cases q : t env with
  | bad => rw [q] at h; exact h.elim
  | exn x e1 =>
    rw [q] at h
    exact fun cv d Z1 H1 a1 hx => h cv d σ Z1 H1 a1 hx
  | ok rs e1 =>
    rw [q] at h
    intro Z1 H1 a1 vs rr
    have h : PostS (mc X) W Z H env σ (kRaise c ks rs e1) D := h
    unfold kRaise at h
    cases hv : valsOf rs with
    | none => rw [hv] at h; exact h.elim
    | some ds =>
      rw [hv] at h
      simp only at h
      by_cases hl : ds.length = ks.length
      · rw [if_pos hl] at h
        have hvs := rrs_vals rr hv
        have hlen : vs.length = ks.length := by rw [hvs.length, hl]
        refine ⟨by rw [hlen]; exact hks, fun a hna => ?_⟩
        rw [List.append_nil]
        refine ⟨a, vs, rfl, hlen, upd_same, fun d H2 hda hd h1 h2 h3 => ?_⟩
        have hd1 : H1 d = none := by rw [upd_ne hda] at hd; exact hd
        refine ⟨rfl, d, _, h1, h2, hd1, ?_⟩
        have eH : upd (del H2 a) d (.xd (ks.zip vs).reverse) = upd H1 d (.xd (ks.zip vs).reverse) := by
          funext b
          by_cases hb : b = d
          · rw [hb, upd_same, upd_same]
          · rw [upd_ne hb, upd_ne hb]
            by_cases hba : b = a
            · rw [hba, del_same, hna]
            · rw [del_ne hba, h3 b hba hb, upd_ne hba]
        rw [eH]
        have g := Grow.frz (o := .xd (ks.zip vs).reverse) a1.rep.sub hd1
        refine h (.ref C) (some d) σ _ _ (a1.trans (a1.rep.grow g)) ⟨C, rfl, E.mg, .inr ⟨d, vs.reverse, rfl, ?_, by simp [hlen], (hvs.mono g.sub).reverse⟩⟩
        rw [upd_same, zip_rev hlen.symm]
      · rw [if_neg hl] at h; exact h.elim
end
end DV
namespace DV
open PySem PySem.Spec L2
/-! ### what an except suite reads of the exception -/
abbrev XF := Exn → Option D
section
variable {M : MC} {Z H Z' H' : Hp} {cls : Value} {d : Option Addr} {x : Exn}
theorem XR.grow (g : Grow Z H Z' H') (h : XR M Z H cls d x) : XR M Z' H' cls d x := by
  obtain ⟨C, e1, e2, e3⟩ := h
  refine ⟨C, e1, e2, ?_⟩
  rcases e3 with e3 | ⟨dd, vs, f1, f2, f3, f4⟩
  · exact .inl e3
  · exact .inr ⟨dd, vs, f1, g.sub _ _ f2, f3, f4.mono g.sub⟩
end
def XAt (M : MC) (io : Option Nat) (a : Addr) (cls : Value) (d : Option Addr) (σ : SV) (Z H : Hp) (x : Exn) : Prop := Sub Z H ∧ (∀ i, io = some i → σ[i]? = some (some (V.ref a))) ∧ XR M Z H cls d x
theorem XAt.grow {M : MC} {io : Option Nat} {a : Addr} {cls : Value} {d : Option Addr} {σ : SV} {Z H Z' H' : Hp} {x : Exn} (g : Grow Z H Z' H') (h : XAt M io a cls d σ Z H x) : XAt M io a cls d σ Z' H' x := ⟨g.sub', h.2.1, h.2.2.grow g⟩
def tVx (M : MC) (io : Option Nat) (a : Addr) (cls : Value) (d : Option Addr) (f : XF) : TE := fun σ H Q => ∃ x dv Z, f x = some dv ∧ XAt M io a cls d σ Z H x ∧ ∀ Z' H' v, Grow Z H Z' H' → Rp M Z' v dv → Q v H'
def tVxs (M : MC) (io : Option Nat) (a : Addr) (cls : Value) (d : Option Addr) (f : Exn → Option (List D)) : TA := fun σ H Q => ∃ x dv Z, f x = some dv ∧ XAt M io a cls d σ Z H x ∧ ∀ Z' H' vs, Grow Z H Z' H' → Rps M Z' vs dv → Q vs H'
/-- what an expression in the suite gives, told by the exception -/
def VX (X : Cx) (io : Option Nat) (e : Expr) (f : XF) : Prop := ∀ (a : Addr) (oe : Obj) (cls : Value) (d : Option Addr) (pn : List (Addr × Obj)), L2N.Zn cls d oe → (∃ vs, oe.data = .fields vs) → PE (X.suite a ((a, oe) :: pn)) e (tVx (mc X) io a cls d f)
def fC (dv : D) : XF := fun _ => some dv
def fNil : Exn → Option (List D) := fun _ => some []
def fCons (f : XF) (g : Exn → Option (List D)) : Exn → Option (List D) := fun x => match f x, g x with
  | some d, some ds => some (d :: ds)
  | _, _ => none
def fTup (g : Exn → Option (List D)) : XF := fun x => match g x with
  | some ds => if ds.length ≤ LIM then some (.tup ds) else none
  | none => none
section
variable {X : Cx} {io : Option Nat} {e o : Expr} {es : List Expr} {pos p : Pos}
theorem lookup_rps {M : MC} {Z : Hp} {k : Str} : ∀ {ks : List Str} {vs : List V} {ds : List D} {dv : D}, ks.length = vs.length → Rps M Z vs ds → (ks.zip ds).lookup k = some dv → ∃ v, (ks.zip vs).lookup k = some v ∧ Rp M Z v dv
  | [], _, _, _, _, _, h => by cases h
  | k' :: ks, [], _, _, h, _, _ => by simp at h
  | k' :: ks, v :: vs, _, dv, hl, .cons (d := d') (ds := ds) r rs, h => by
    rw [List.zip_cons_cons, List.lookup_cons] at h ⊢
    cases q : (k == k') with
    | true =>
      rw [q] at h
      simp only at h ⊢
      cases h
      exact ⟨v, rfl, r⟩
    | false =>
      rw [q] at h
      simp only at h ⊢
      exact lookup_rps (by simpa using hl) rs h
/-- a refusal's class whose fields are read -/
structure ErrF (K : PySem.W.Frag) (mg : Str → Option Value) (c k : Str) : Prop where
  ex : ∃ C, mg c = some (.ref C) ∧ XfC K C ∧ PySem.W.findIn K (.ref C) k = some none
end
/-! ### the suite's statement -/
abbrev noW : WX := fun _ _ _ _ => False
def tSu (M : MC) (io : Option Nat) (a : Addr) (cls : Value) (d : Option Addr) (su : Exn → SS) : TS := fun D σ H => ∃ Z env x, Rep M Z H env σ ∧ XAt M io a cls d σ Z H x ∧ PostS M noW Z H env σ (su x env) D
def DSu (X : Cx) (io : Option Nat) (ss : List Stmt) (su : Exn → SS) : Prop := ∀ (a : Addr) (oe : Obj) (cls : Value) (d : Option Addr) (pn : List (Addr × Obj)), L2N.Zn cls d oe → (∃ vs, oe.data = .fields vs) → PSs (X.suite a ((a, oe) :: pn)) ss (tSu (mc X) io a cls d su)
def xSet (j : Nat) (f : XF) : Exn → SS := fun x => match f x with
  | some dv => sSet j (vC dv)
  | none => sBad
def xRet (f : XF) : Exn → SS := fun x => match f x with
  | some dv => sRet (vC dv)
  | none => sBad
section
variable {X : Cx} {io : Option Nat} {e : Expr} {pos p : Pos}
end
end DV
namespace DV
open PySem PySem.Spec L2
/-! ### try: body / except C as n: suite -/
def isHole (o : Option Sl) : Bool := match o with
  | some .hole => true
  | _ => false
@[simp] theorem isHole_hole : isHole (some .hole) = true := Eq.trans rfl rfl
theorem isHole_iff {o : Option Sl} (h : isHole o = true) : o = some .hole := by
  unfold isHole at h
  split at h
  · rfl
  · cases h
def okH (io : Option Nat) (e : Ev) : Bool := match io with
  | none => true
  | some i => isHole e[i]?
@[simp] theorem okH_none {e : Ev} : okH none e = true := Eq.trans rfl rfl
@[simp] theorem okH_some {i : Nat} {e : Ev} : okH (some i) e = isHole e[i]? := Eq.trans rfl rfl
def kSu (io : Option Nat) (o : Out Fl) : Out Fl := match o with
  | .ok .nx e => if okH io e then .ok .nx e else .bad
  | .ok (.rt (.val d)) e => if okH io e then .ok (.rt (.val d)) e else .bad
  | _ => .bad
@[simp] theorem kSu_nx {io : Option Nat} {e : Ev} : kSu io (.ok .nx e) = if okH io e then .ok .nx e else .bad := Eq.trans rfl rfl
@[simp] theorem kSu_rt {io : Option Nat} {e : Ev} {d : D} : kSu io (.ok (.rt (.val d)) e) = if okH io e then .ok (.rt (.val d)) e else .bad := Eq.trans rfl rfl
def kTry (io : Option Nat) (tbl : List (Str × Bool)) (su : Exn → SS) (o : Out Fl) : Out Fl := match o with
  | .exn x e => match tbl.lookup x.c with
    | some true => if okH io e then kSu io (su x e) else .bad
    | some false => .exn x e
    | none => .bad
  | o => o
@[simp] theorem kTry_ok {io : Option Nat} {tbl : List (Str × Bool)} {su : Exn → SS} {f : Fl} {e : Ev} : kTry io tbl su (.ok f e) = .ok f e := Eq.trans rfl rfl
def sTry (io : Option Nat) (tbl : List (Str × Bool)) (b : SS) (su : Exn → SS) : SS := fun env => kTry io tbl su (b env)
@[simp] theorem sTry_eq {io : Option Nat} {tbl : List (Str × Bool)} {b : SS} {su : Exn → SS} {e : Ev} : sTry io tbl b su e = kTry io tbl su (b e) := Eq.trans rfl rfl
section
variable {M : MC} {Z H Z' H' : Hp} {env e : Ev} {σ σ' : SV} {i : Nat} {u w : Option V} {a : Addr}
theorem Owned.hole (h : env[i]? = some .hole) : Owned env (σ.set i u) a ↔ Owned env σ a := by
  constructor
  · rintro ⟨j, s, xs, h1, h2, h3⟩
    have : i ≠ j := fun z => by subst z; rw [h] at h1; cases h1; cases h2
    rw [List.getElem?_set_ne this] at h3
    exact ⟨j, s, xs, h1, h2, h3⟩
  · rintro ⟨j, s, xs, h1, h2, h3⟩
    have : i ≠ j := fun z => by subst z; rw [h] at h1; cases h1; cases h2
    exact ⟨j, s, xs, h1, h2, by rw [List.getElem?_set_ne this]; exact h3⟩
theorem Rep.hole (h : env[i]? = some .hole) (r : Rep M Z H env σ) : Rep M Z H env (σ.set i u) where
  len := by rw [List.length_set]; exact r.len
  sub := r.sub
  val := fun j d e => by
    have : i ≠ j := fun z => by subst z; rw [h] at e; cases e
    rw [List.getElem?_set_ne this]
    exact r.val j d e
  lst := fun j s xs h1 h2 => by
    have : i ≠ j := fun z => by subst z; rw [h] at h1; cases h1; cases h2
    rw [List.getElem?_set_ne this]
    exact r.lst j s xs h1 h2
  apart := fun j k sj sk xj xk b h1 h2 h3 h4 h5 h6 => by
    have e1 : i ≠ j := fun z => by subst z; rw [h] at h1; cases h1; cases h3
    have e2 : i ≠ k := fun z => by subst z; rw [h] at h2; cases h2; cases h4
    rw [List.getElem?_set_ne e1] at h5
    rw [List.getElem?_set_ne e2] at h6
    exact r.apart j k sj sk xj xk b h1 h2 h3 h4 h5 h6
  wld := r.wld
  wone := r.wone
theorem Aft.hole (h : env[i]? = some .hole) (h' : e[i]? = some .hole) (x : Aft M Z H env (σ.set i u) Z' H' e σ') : Aft M Z H env σ Z' H' e (σ'.set i w) where
  rep := x.rep.hole h'
  sub := x.sub
  kept := fun a h1 h2 h3 => x.kept a h1 (fun z => h2 ((Owned.hole h).mp z)) h3
  alive := x.alive
  owned := fun a h1 => (x.owned a ((Owned.hole h').mp h1)).imp (fun z => (Owned.hole h).mp z) id
  pins := fun j s h1 h2 => by
    have e1 : i ≠ j := fun z => by subst z; rw [h] at h1; cases h1; cases h2
    obtain ⟨q1, q2⟩ := x.pins j s h1 h2
    rw [List.getElem?_set_ne e1] at q1 ⊢
    exact ⟨q1, q2⟩
  unpin := x.unpin
  lents := fun j xs h1 => by
    have e1 : i ≠ j := fun z => by subst z; rw [h] at h1; cases h1
    obtain ⟨q1, q2⟩ := x.lents j xs h1
    rw [List.getElem?_set_ne e1] at q1 ⊢
    exact ⟨q1, q2⟩
  unlent := x.unlent
  wk := x.wk
end
/-- what an except clause catches, of the refusals that may come -/
structure Catch (K : PySem.W.Frag) (mg : Str → Option Value) (c : Str) (tbl : List (Str × Bool)) : Prop where
  ex : ∃ Ch, mg c = some (.ref Ch) ∧ ∀ x b, tbl.lookup x = some b → ∃ Cx, mg x = some (.ref Cx) ∧ PySem.W.exmOne K (.ref Cx) (.ref Ch) = some b
section
variable {X : Cx} {W : WX} {c n : Str} {i : Nat} {tbl : List (Str × Bool)} {body suite : List Stmt} {b₀ : Stmt} {np pos pos' : Pos} {b : SS} {su : Exn → SS}
theorem try_okp {W' : WX} {Z H : Hp} {env : Ev} {σ : SV} {D : Ends} {M : MC} {f : Fl} {e : Ev} (h : PostS M W Z H env σ (.ok f e) D) : PostS M W' Z H env σ (.ok f e) D := by
  cases f <;> exact h
end
end DV
namespace DV
open PySem PySem.Spec L2
/-! ### what the top has written of the refusals -/
structure HasErr (K : PySem.W.Frag) (mg : Str → Option Value) (c : Str) (ks : List Str) (qual : Str) (st : Stmt) : Prop where
  ex : ∃ C f fd, ErrC K mg c ks C f ∧ Fun K "__init__" qual st f fd
section
variable {K : PySem.W.Frag} {mg : Str → Option Value} {h : Heap} {st : Stmt} {c k x qual : Str} {ks : List Str} {f C R Ch Cx : Addr} {oc kV doc pm cdv ct : Value} {od an : Option Addr} {osl : Array (Option Value)} {tbl : List (Str × Bool)} {b : Bool}
  {nm qC : Str} {N : Addr} {bs : List Value} {bm : List Value}
theorem has_rerr (X : K.In h) (G : h.Ns mainGlobals mg) (a : PySem.W.nsIn K mainGlobals "RingError" = some (some (.ref R))) (g1 : PySem.W.specialIn K (.ref R) "__getattribute__" = some (some (.builtin "type.__getattribute__"))) (g2 : PySem.W.typeIn K (.ref R) = some (.type "type"))
    (g3 : PySem.W.readsIn K R (.type "type") = true) (g4 : PySem.W.findCls K (.ref R) (.type "type") "__init__" = some (.val (.builtin "ValueError.__init__"))) : RErr K mg := ⟨R, PySem.W.mg_of X G a, g1, g2, g3, g4⟩
theorem errF_of (X : K.In h) (G : h.Ns mainGlobals mg) (a : PySem.W.nsIn K mainGlobals c = some (some (.ref C))) (q1 : PySem.W.findIn K (.ref C) "__getattribute__" = some (some (.builtin "BaseException.__getattribute__"))) (q2 : PySem.W.findIn K (.ref C) "__getattr__" = some none)
    (q3 : PySem.W.subIn K (.ref C) (.type "BaseException") = some true) (q4 : PySem.W.hasDictIn K C = true) (n : PySem.W.findIn K (.ref C) k = some none) : ErrF K mg c k := ⟨C, PySem.W.mg_of X G a, ⟨q1, q2, q3, q4⟩, n⟩
theorem catch_nil (m : mg c = some (.ref Ch)) : Catch K mg c [] := ⟨Ch, m, fun _ _ h => by cases h⟩
theorem catch_cons (X : K.In h) (G : h.Ns mainGlobals mg) (ac : PySem.W.nsIn K mainGlobals c = some (some (.ref Ch))) (a : PySem.W.nsIn K mainGlobals x = some (some (.ref Cx))) (e1 : PySem.W.subIn K (.ref Ch) (.type "BaseException") = some true) (e2 : PySem.W.hasDictIn K Ch = true) (e3 : PySem.W.typeIn K (.ref Ch) = some (.type "type"))
    (e4 : PySem.W.subIn K (.ref Cx) (.ref Ch) = some b) (r : Catch K mg c tbl) : Catch K mg c ((x, b) :: tbl) := by
  have e : PySem.W.exmOne K (.ref Cx) (.ref Ch) = some b := PySem.W.exm_ref e1 e2 e3 e4
  obtain ⟨Ch', m, q⟩ := r.ex
  have m0 := PySem.W.mg_of X G ac
  rw [m0] at m
  cases m
  refine ⟨Ch, m0, fun y b' hy => ?_⟩
  rw [List.lookup_cons] at hy
  cases z : (y == x) with
  | true =>
    rw [z] at hy
    simp only at hy
    cases hy
    rw [eq_of_beq z]
    exact ⟨Cx, PySem.W.mg_of X G a, e⟩
  | false =>
    rw [z] at hy
    exact q y b' hy
theorem has_err {sn sub ab col k0 k1 k2 k3 k5 : _} {dd : _} (X : K.In h) (G : h.Ns mainGlobals mg) (a : PySem.W.nsIn K mainGlobals c = some (some (.ref C)))
    (lk : K.lookup C = some (excClassObj nm qC C N bs bm true sn sub ab col dd k0 k1 k2 k3 k5 "ValueError.__new__")) (hb : PySem.HandSPX.refsVE bm = true) (sa : PySem.W.findIn K (.ref C) "__setattr__" = some (some (.builtin "object.__setattr__")))
    (e1 : PySem.W.subIn K (.ref C) (.type "BaseException") = some true) (e2 : PySem.W.typeIn K (.ref C) = some (.type "type")) (e3 : PySem.W.keepIn K (.ref C) = true)
    (i : PySem.W.findIn K (.ref C) "__init__" = some (some (.ref f))) (ti : PySem.W.typeIn K (.ref f) = some (.type "function")) (no : ∀ k ∈ ks, PySem.W.findIn K (.ref C) k = some none)
    (l : K.lookup f = some ⟨oc, od, .func (PySem.W.fnOf "__init__" qual (defArgs st) (defBody st) (defScope st) .none kV doc pm an cdv ct), osl⟩) (cd : PySem.W.codeIn K cdv qual = true) (kf : PySem.W.keepIn K (.ref f) = true) : HasErr K mg c ks qual st :=
  ⟨C, f, _, ⟨PySem.W.mg_of X G a, ⟨⟨_, _, _, _, _, _, _, _, _, _, _, _, _, _, _, lk, hb⟩, sa, e1, e2, e3⟩, i, ti, no⟩, fun_mk l cd kf⟩
theorem no_nil : ∀ k ∈ ([] : List Str), PySem.W.findIn K (.ref C) k = some none := fun k h => by cases h
theorem no_cons (h1 : PySem.W.findIn K (.ref C) k = some none) (h2 : ∀ k ∈ ks, PySem.W.findIn K (.ref C) k = some none) : ∀ y ∈ k :: ks, PySem.W.findIn K (.ref C) y = some none := fun y hy => by
  rcases List.mem_cons.mp hy with e | e
  · rw [e]; exact h1
  · exact h2 y e
end
end DV
namespace DV
open PySem PySem.Spec L2
/-! ### the net of the kept stores goes on as the net does -/
structure KeptNet (many : Int) (ps : Prs) (cs kl : List Int) (R : List (List Int)) : Prop where
  str : Str0 many ps
  m0 : 0 < many
  len : cs.length = ps.length
  nn : ∀ c ∈ cs, 0 ≤ c
  wet : ∀ r, IsRing ps r → 1 ≤ (r.map (nameF cs)).sum
  tab : TabIs many ps (nameF cs) R
  ok : ∀ k ∈ kl, okS ps k
  way : ∀ u v, 0 ≤ u → u < many → 0 ≤ v → v < many → ∃ r, isW ps u r v ∧ (r.map (nameF cs)).sum = entR R u v ∧ ∀ i ∈ r, i ∈ kl
def Moved (ps : Prs) (cs now : List Int) : Prop := ∃ f : Int → Int, ∀ i, okS ps i → nameF now i = nameF cs i + f (stP ps i).1 - f (stP ps i).2
structure CoinsAt (ps : Prs) (cs now : List Int) : Prop where
  len : now.length = ps.length
  nn : ∀ c ∈ now, 0 ≤ c
  mov : Moved ps cs now
section
variable {many : Int} {ps : Prs} {cs kl now : List Int} {R : List (List Int)}
theorem nn_at (hl : now.length = ps.length) (h : ∀ c ∈ now, 0 ≤ c) {i : Int} (ok : okS ps i) : 0 ≤ nameF now i := h _ (nameF_mem ok.1 (by rw [hl]; exact ok.2))
theorem subCs_len : (subCs now kl).length = (subPs ps kl).length := by simp [subCs, subPs]
theorem subCs_nn (hl : now.length = ps.length) (h : ∀ c ∈ now, 0 ≤ c) (hk : ∀ k ∈ kl, okS ps k) : ∀ c ∈ subCs now kl, 0 ≤ c := fun c hc => by
  obtain ⟨k, hk1, rfl⟩ := List.mem_map.mp hc
  exact nn_at hl h (hk k hk1)
theorem sub_of_mem {k : Int} (h : k ∈ kl) : ∃ i, okS (subPs ps kl) i ∧ nameF kl i = k := by
  obtain ⟨n, hn, e⟩ := List.getElem_of_mem h
  refine ⟨(n : Int), ⟨by omega, by rw [sub_len]; omega⟩, nameF_get (by rw [Int.toNat_natCast, List.getElem?_eq_getElem hn, e])⟩
theorem KeptNet.free (N : KeptNet many ps cs kl R) (T : CoinsAt ps cs now) {v : Int} (v0 : 0 ≤ v) (v1 : v < many) : frB (subPs ps kl) (subCs now kl) v = frB ps now v := by
  cases h : frB ps now v with
  | true =>
    cases h2 : frB (subPs ps kl) (subCs now kl) v with
    | true => rfl
    | false =>
      obtain ⟨i, h3, h4, h5⟩ := frB_no subCs_len (subCs_nn T.len T.nn N.ok) h2
      obtain ⟨e, hm⟩ := sub_at h3
      rw [e] at h4
      rw [sub_w h3] at h5
      have := frB_at T.len h (N.ok _ hm) h4
      omega
  | false =>
    cases h2 : frB (subPs ps kl) (subCs now kl) v with
    | false => rfl
    | true =>
      exfalso
      obtain ⟨s, ok, e, hz⟩ := frB_no T.len T.nn h
      obtain ⟨f, hf⟩ := T.mov
      obtain ⟨a0, a1, b0, b1⟩ := N.str.inn _ (stP_mem ok)
      have hs := hf s ok
      by_cases hself : (stP ps s).1 = (stP ps s).2
      · have hc := closed_pos N.str.inn (by have := N.m0; omega) N.wet (c := [s]) (u := (stP ps s).1) ⟨ok, rfl, hself.symm⟩ (by simp)
        simp only [List.map_cons, List.map_nil, List.sum_cons, List.sum_nil] at hc
        rw [hself] at hs
        omega
      · obtain ⟨r, h3, h4, h5⟩ := N.way _ _ a0 a1 b0 b1
        have h6 := N.tab.le _ _ [s] a0 a1 b0 b1 ⟨ok, rfl, rfl⟩
        simp only [List.map_cons, List.map_nil, List.sum_cons, List.sum_nil] at h6
        have h7 := tele f (nameF now) (nameF cs) h3 fun i hi => hf i (isW_ok h3 i hi)
        have h8 : (r.map (nameF now)).sum ≤ 0 := by omega
        have hr : r ≠ [] := fun z => by subst z; exact hself h3
        obtain ⟨x, j, rfl⟩ : ∃ x j, r = x ++ [j] := ⟨r.dropLast, r.getLast hr, (List.dropLast_concat_getLast hr).symm⟩
        obtain ⟨g1, g2, g3⟩ := isW_snoc.mp h3
        have hx : 0 ≤ (x.map (nameF now)).sum := sum_nn' fun i hi => nn_at T.len T.nn (isW_ok h3 i (by simp [hi]))
        have hj := nn_at T.len T.nn g2
        rw [List.map_append, List.sum_append] at h8
        simp only [List.map_cons, List.map_nil, List.sum_cons, List.sum_nil] at h8
        obtain ⟨i, q1, q2⟩ := sub_of_mem (ps := ps) (h5 j (by simp))
        obtain ⟨q3, _⟩ := sub_at q1
        have q4 := frB_at (subCs_len (kl := kl)) h2 q1 (by rw [q3, q2, g3, e])
        rw [sub_w q1, q2] at q4
        omega
theorem sub_step {w : Int} (hl : now.length = ps.length) (hk : ∀ k ∈ kl, okS ps k) : subCs (stepL ps now w) kl = stepL (subPs ps kl) (subCs now kl) w := by
  have l1 : (subCs (stepL ps now w) kl).length = (subPs ps kl).length := subCs_len
  have l2 : (stepL (subPs ps kl) (subCs now kl) w).length = (subPs ps kl).length := stepL_len subCs_len
  refine ext_nameF (by rw [l1, l2]) fun i i0 i1 => ?_
  rw [l1] at i1
  have ok : okS (subPs ps kl) i := ⟨i0, i1⟩
  obtain ⟨e, hm⟩ := sub_at ok
  rw [sub_w ok, step_at subCs_len ok, step_at hl (hk _ hm), sub_w ok, e]
theorem CoinsAt.step {w : Int} (T : CoinsAt ps cs now) (h : frB ps now w = true) : CoinsAt ps cs (stepL ps now w) := by
  refine ⟨stepL_len T.len, fun c hc => ?_, ?_⟩
  · obtain ⟨i, i0, i1, rfl⟩ := mem_nameF hc
    rw [stepL_len T.len] at i1
    have ok : okS ps i := ⟨i0, i1⟩
    rw [step_at T.len ok]
    have h1 := nn_at T.len T.nn ok
    by_cases e : (stP ps i).2 = w
    · have h2 := frB_at T.len h ok e
      unfold gain
      rw [if_pos e]
      split <;> omega
    · unfold gain
      rw [if_neg e]
      split <;> omega
  · obtain ⟨f, hf⟩ := T.mov
    refine ⟨fun v => f v + (if v = w then 1 else 0), fun i ok => ?_⟩
    rw [step_at T.len ok, hf i ok]
    show nameF cs i + f (stP ps i).1 - f (stP ps i).2 + ((if (stP ps i).1 = w then 1 else 0) - (if (stP ps i).2 = w then 1 else 0)) = nameF cs i + (f (stP ps i).1 + (if (stP ps i).1 = w then 1 else 0)) - (f (stP ps i).2 + (if (stP ps i).2 = w then 1 else 0))
    omega
theorem KeptNet.greedy (N : KeptNet many ps cs kl R) : ∀ (n : Nat) {now left : List Int}, CoinsAt ps cs now → greedyL many (subPs ps kl) n (subCs now kl) left = greedyL many ps n now left
  | 0, _, _, _ => rfl
  | n + 1, now, left, T => by
    have hp : pickL many (subPs ps kl) (subCs now kl) left = pickL many ps now left := by
      unfold pickL
      refine List.filter_congr fun v hv => ?_
      have := mem_idx.mp hv
      rw [N.free T (by omega) (by omega)]
    unfold greedyL
    rw [hp]
    cases hq : pickL many ps now left with
    | nil => rfl
    | cons w t =>
      have hm : w ∈ pickL many ps now left := by rw [hq]; exact List.mem_cons_self
      have hm := mem_pick.mp hm
      simp only
      rw [← sub_step T.len N.ok, N.greedy n (T.step hm.2.2.2)]
theorem KeptNet.led (N : KeptNet many ps cs kl R) (RS : RingsOf ps (ringsL ps)) (RS' : RingsOf (subPs ps kl) (ringsL (subPs ps kl))) (T : CoinsAt ps cs now) : ledD many (subPs ps kl) (subCs cs kl) (subCs now kl) = ledD many ps cs now := by
  have m0 := N.m0
  have S' := (sub_tab (cs := cs) N.str N.ok N.tab N.way N.m0).1
  obtain ⟨f, hf⟩ := T.mov
  obtain ⟨ws, m, A, _⟩ := lst_of (cs := cs) (gs := now) (by omega) N.str.inn N.len T.len hf
  have A' : Lst many (subPs ps kl) (subCs cs kl) (subCs now kl) ws := by
    refine ⟨A.len, A.nn, A.zero, cm_eq (many := many) subCs_len subCs_len fun i ok => ?_⟩
    obtain ⟨e, hm⟩ := sub_at ok
    have := A.at N.len _ (N.ok _ hm)
    rw [sub_w ok, sub_w ok, e]
    omega
  have d1 : deadR ps cs ws = none := dead_sum RS fun r hr => by
    have h1 := N.wet r hr
    have h3 : sumR cs r = (r.map (nameF cs)).sum := rfl
    omega
  have d2 : deadR (subPs ps kl) (subCs cs kl) ws = none := dead_sum RS' fun r hr => by
    obtain ⟨u, hu⟩ := hr.way
    obtain ⟨g1, g2, _⟩ := sub_way (cs := cs) N.ok hu
    have h1 := closed_pos N.str.inn (by omega) N.wet g1 (by simpa using hr.ne)
    have h3 : sumR (subCs cs kl) r = (r.map (nameF (subCs cs kl))).sum := rfl
    omega
  simp only [ledD, lcL_some N.str N.len A, lcL_some S' subCs_len A', d1, d2]
  rw [N.greedy _ ⟨N.len, N.nn, ⟨fun _ => 0, fun i _ => by simp⟩⟩]
end
end DV
namespace DV
open PySem PySem.Spec L2
/-! ### running where a refusal comes -/
section
variable {α β : Type}
@[simp] theorem bind_exn {x : Exn} {e : Ev} {k : α → Ev → Out β} : (Out.exn x e).bind k = .exn x e := Eq.trans rfl rfl
@[simp] theorem seq_exn {x : Exn} {e : Ev} {t : SS} : (Out.exn x e).seq t = .exn x e := Eq.trans rfl rfl
@[simp] theorem ret_exn {x : Exn} {e : Ev} {n : Nat} : (Out.exn x e).ret n = .exn x (pinsOf n e) := Eq.trans rfl rfl
def exnO (b : Bool) (x : Exn) (o : Option Ev) : Out R := if b then (match o with
  | some e2 => .exn x e2
  | none => .bad) else .bad
@[simp] theorem exnO_t {x : Exn} {e : Ev} : exnO true x (some e) = .exn x e := Eq.trans rfl rfl
@[simp] theorem backR_exn {ms : List Md} {rs1 : List R} {e1 : Ev} {x : Exn} {ce' : Ev} : backR ms rs1 e1 (.exn x ce') = exnO ((lendIx ms rs1 e1).isEmpty || (lfs x.ds && pinsLf ce')) x (back ms rs1 ce' e1) := Eq.trans rfl rfl
@[simp] theorem mapEv_exn {x : Exn} {e : Ev} {f : Ev → Ev} : mapEv f (Out.exn x e : Out Fl) = .exn x (f e) := Eq.trans rfl rfl
end
@[simp] theorem xRet_some {f : XF} {x : Exn} {e : Ev} : xRet f x e = (match f x with
  | some dv => sRet (vC dv) e
  | none => .bad) := by
  unfold xRet
  cases f x <;> rfl
@[simp] theorem xSet_some {j : Nat} {f : XF} {x : Exn} {e : Ev} : xSet j f x e = (match f x with
  | some dv => sSet j (vC dv) e
  | none => .bad) := by
  unfold xSet
  cases f x <;> rfl
section
variable {g : GT} {b : SS}
end
/-! ### how far a row comes -/
section
variable {ps : Prs} {cs : List Int}
end
end DV
namespace HT
open PySem PySem.Spec PyProof.Rows
/-! ### xs[::-1] of a tuple -/
section
variable {prog : Program} {w : World} {A : Around} {E : Value → Shared → Prop} {s : Shared}
end
end HT
namespace DV
open PySem PySem.Spec L2 PyProof.Rows
def gRevT (d : D) : Option R := match d with
  | .tup xs => some (.val (.tup xs.reverse))
  | _ => none
@[simp] theorem gRevT_tup {xs : List D} : gRevT (.tup xs) = some (.val (.tup xs.reverse)) := rfl
end DV
set_option maxHeartbeats 2000000
namespace DV
open PySem PySem.Spec PyProof.Rows L2 HotX L2H
/-! ### the end of a list's or a tuple's iterator while an exception is handled -/
section
variable {prog : Program} {w : World} {A : Around} {E : Value → Shared → Prop} {s : Shared}
theorem list_end_hot {it l x1 : Addr} {i : Nat} {items : Array Value} {Q : Option Value → Shared → Prop} (hot : HotAt A x1 s.heap)
    (hit : s.heap.IsListIter it l i) (hl : s.heap.IsList l items) (hx : items[i]? = none)
    (hQ : ∀ h', Heap.ExtBut it s.heap h' → Q none { s with heap := h' }) : wpAny (model prog w) A (pyNext (.ref it)) Q E s := by
  obtain ⟨hh, o1, vs1, h1, d1, c1⟩ := hot
  obtain ⟨o, ho, hc, hd⟩ := id hit
  have hne : x1 ≠ it := fun z => by
    rw [z, ho] at h1; cases h1
    rw [hd] at d1; cases d1
    simp at c1
  obtain ⟨ol, hol, _, nl, hdl⟩ := hl
  unfold pyNext
  refine wpAny_bind (wpAny_attempt (wpAny_callSpecial?_slot (name := Str.ofString "__next__") hit.typeIs slot_listiter_next
    (wpAny_call_entry slot_listiter_next hit.typeIs entry_listiter_next ?_ (args_listiter_next _))))
  show wpAny _ _ (field (.ref it) 0 >>= _) _ _ s
  refine wpAny_bind (wpAny_field ho hd (x := .ref l) rfl ?_)
  show wpAny _ _ (if (Value.ref l == Value.none) = true then _ else _) _ _ s
  rw [if_neg (show ¬ ((Value.ref l == Value.none) = true) from Bool.false_ne_true)]
  show wpAny _ _ (field (.ref it) 1 >>= _) _ _ s
  refine wpAny_bind (wpAny_field ho hd (x := .int i 0) rfl ?_)
  show wpAny _ _ (seqItems? (.ref l) >>= _) _ _ s
  refine wpAny_bind (wpAny_seqItems hol hdl ?_)
  simp only [Int.toNat_natCast, hx]
  refine wpAny_bind (wpAny_rule (wpAny_bind (wpAny_setField ho hd (by simp) ?_)))
  show wpAny _ _ (newExc (.type "StopIteration") [] >>= _) _ _ _
  refine wpAny_bind ?_
  simp only [newExc, newTuple]
  refine wpAny_bind (wpAny_newObj_type ?_ (by size_fits))
  refine wpAny_bind (m := firstArgMember _ _) (wpAny_of_eq (a := Value.none) (by first | rfl | (simp only [firstArgMember]; rfl)) ?_)
  refine wpAny_newObj_type ?_ (by size_fits)
  have kp : ∀ b o, b ≠ it → s.heap.get? b = some o → (s.heap.update it (Obj.mapFields fun x => x.setIfInBounds 0 Value.none)).get? b = some o := fun b o hb e => by
    rw [Heap.get?_update_other _ _ (Ne.symm hb)]; exact e
  have h1' := kp x1 o1 hne h1
  refine raiseNew_hot ⟨hh, o1, vs1, Heap.get?_push_of_some _ (Heap.get?_push_of_some _ h1'), d1, c1⟩ (Nat.ne_of_lt (Heap.lt_size (Heap.get?_push_of_some _ h1'))) (Heap.get?_push_size _ rfl) rfl (by first | (simp; done) | (simp; omega) | (simp only [Array.size_append]; simp; omega)) ?_
  refine wpAny_bind (wpAny_isInstance (T := "StopIteration") (b := true) ⟨_, Heap.get?_update_self _ (Heap.get?_push_size _ rfl) rfl, rfl⟩ isSubtype_stop ?_)
  refine wpAny_pure (hQ _ fun b o hb e => ?_)
  have e' := kp b o hb e
  rw [Heap.get?_update_other _ _ (Nat.ne_of_gt (Heap.lt_size (Heap.get?_push_of_some _ e')))]
  exact Heap.get?_push_of_some _ (Heap.get?_push_of_some _ e')
theorem tuple_end_hot {it t x1 : Addr} {i : Nat} {items : Array Value} {Q : Option Value → Shared → Prop} (hot : HotAt A x1 s.heap)
    (hit : IsTupIter s.heap it t i) (ht : IsTup s.heap t items) (hx : items[i]? = none)
    (hQ : ∀ h', Heap.ExtBut it s.heap h' → Q none { s with heap := h' }) : wpAny (model prog w) A (pyNext (.ref it)) Q E s := by
  obtain ⟨hh, o1, vs1, h1, d1, c1⟩ := hot
  obtain ⟨o, ho, hc, hd⟩ := id hit
  have hne : x1 ≠ it := fun z => by
    rw [z, ho] at h1; cases h1
    rw [hd] at d1; cases d1
    simp at c1
  obtain ⟨ol, hol, _, nl, hdl⟩ := ht
  unfold pyNext
  refine wpAny_bind (wpAny_attempt (wpAny_callSpecial?_slot (name := Str.ofString "__next__") hit.typeIs slot_tupleiter_next
    (wpAny_call_entry slot_tupleiter_next hit.typeIs entry_tupleiter_next ?_ (args_tupleiter_next _))))
  show wpAny _ _ (field (.ref it) 0 >>= _) _ _ s
  refine wpAny_bind (wpAny_field ho hd (x := .ref t) rfl ?_)
  show wpAny _ _ (if (Value.ref t == Value.none) = true then _ else _) _ _ s
  rw [if_neg (show ¬ ((Value.ref t == Value.none) = true) from Bool.false_ne_true)]
  show wpAny _ _ (field (.ref it) 1 >>= _) _ _ s
  refine wpAny_bind (wpAny_field ho hd (x := .int i 0) rfl ?_)
  show wpAny _ _ (seqItems? (.ref t) >>= _) _ _ s
  refine wpAny_bind (wpAny_seqItems hol hdl ?_)
  simp only [Int.toNat_natCast, hx]
  refine wpAny_bind (wpAny_rule (wpAny_bind (wpAny_setField ho hd (by simp) ?_)))
  show wpAny _ _ (newExc (.type "StopIteration") [] >>= _) _ _ _
  refine wpAny_bind ?_
  simp only [newExc, newTuple]
  refine wpAny_bind (wpAny_newObj_type ?_ (by size_fits))
  refine wpAny_bind (m := firstArgMember _ _) (wpAny_of_eq (a := Value.none) (by first | rfl | (simp only [firstArgMember]; rfl)) ?_)
  refine wpAny_newObj_type ?_ (by size_fits)
  have kp : ∀ b o, b ≠ it → s.heap.get? b = some o → (s.heap.update it (Obj.mapFields fun x => x.setIfInBounds 0 Value.none)).get? b = some o := fun b o hb e => by
    rw [Heap.get?_update_other _ _ (Ne.symm hb)]; exact e
  have h1' := kp x1 o1 hne h1
  refine raiseNew_hot ⟨hh, o1, vs1, Heap.get?_push_of_some _ (Heap.get?_push_of_some _ h1'), d1, c1⟩ (Nat.ne_of_lt (Heap.lt_size (Heap.get?_push_of_some _ h1'))) (Heap.get?_push_size _ rfl) rfl (by first | (simp; done) | (simp; omega) | (simp only [Array.size_append]; simp; omega)) ?_
  refine wpAny_bind (wpAny_isInstance (T := "StopIteration") (b := true) ⟨_, Heap.get?_update_self _ (Heap.get?_push_size _ rfl) rfl, rfl⟩ isSubtype_stop ?_)
  refine wpAny_pure (hQ _ fun b o hb e => ?_)
  have e' := kp b o hb e
  rw [Heap.get?_update_other _ _ (Nat.ne_of_gt (Heap.lt_size (Heap.get?_push_of_some _ e')))]
  exact Heap.get?_push_of_some _ (Heap.get?_push_of_some _ e')
/-- a, b = t, t a tuple -/
theorem assign_tup_hot {env : Env} {elts : List Expr} {k : Nat} {pos : Pos} {t x1 : Addr} {items : Array Value} {Q : Unit → Shared → Prop} (hot : HotAt A x1 s.heap) (ht : IsTup s.heap t items)
    (hn : (assignEach elts env).length = items.size) (hstar : (assignEach elts env).findIdx? (·.1) = none)
    (h : ∀ h', Heap.ExtBut s.heap.objs.size s.heap h' → wpAny (model prog w) A (assignInOrder ((assignEach elts env).map (·.2)) items.toList) Q E { s with heap := h' }) :
    wpAny (model prog w) A (assign (.Tuple elts k pos) env (.ref t)) Q E s := by
  obtain ⟨hh, o1, vs1, h1, d1, c1⟩ := hot
  have hlt : t ≠ s.heap.objs.size := by obtain ⟨o, ho, _⟩ := ht; exact Nat.ne_of_lt (Heap.lt_size ho)
  have hx1 : x1 ≠ s.heap.objs.size := Nat.ne_of_lt (Heap.lt_size h1)
  rw [assign_Tuple]
  refine wpAny_bind (wpAny_standAt ?_)
  unfold unpack
  rw [hn, hstar]
  refine wpAny_bind (wpAny_holding ?_)
  unfold unpackItems
  refine wpAny_bind ?_
  unfold notIterableAtAll
  refine wpAny_bind (wpAny_specialOf ht.typeIs slot_tuple_iter.lookup ?_)
  refine wpAny_pure ?_
  simp only [Bool.false_eq_true, if_false]
  refine wpAny_bind (wpAny_holding (iter_tuple ht ?_))
  refine wpAny_bind (wpAny_holding (draw_tuple hlt items.size 0 _ _ ⟨_, Heap.get?_push_size _ rfl, rfl, rfl⟩ (ht.push _) (by omega) fun h₁ hit₁ hs₁ => ?_))
  have hall : List.take items.size (List.drop 0 items.toList) = items.toList := by
    rw [List.drop_zero]; exact List.take_of_length_le (by simp)
  rw [hall]
  rw [if_neg (by simp)]
  have ht₁ : IsTup h₁ t items := (ht.push _).extBut hs₁.extBut hlt
  refine wpAny_bind (wpAny_holding (tuple_end_hot (x1 := x1) ⟨hh, o1, vs1, hs₁.extBut x1 o1 hx1 (Heap.get?_push_of_some _ h1), d1, c1⟩ hit₁ ht₁ (by simp) fun h₂ he₂ => ?_))
  simp only [Option.isSome_none, Bool.false_eq_true, if_false]
  exact wpAny_pure (h h₂ fun b o hb e => he₂ b o hb (hs₁.extBut b o hb (Heap.get?_push_of_some _ e)))
end
/-! ### contexts in which an exception is handled -/
structure Hotter (X : Cx) : Prop where
  hot : ∀ {pins : List (Addr × Obj)} {σ : SV} {H : Hp} {s : Shared}, Inv X pins σ H s → ∃ x1, HotAt X.A x1 s.heap
theorem Hotter.of {X : Cx} (h : HotC X) : Hotter X := ⟨fun I => h.at I⟩
section
variable {X : Cx} {pos : Pos}
theorem pg_tupZ {es : List Expr} {k : Nat} {t : TGs} {n : Nat} (hz : Hotter X) (h : PGs X es t)
    (hn : (assignEach es X.env).length = n := by rfl) (hst : (assignEach es X.env).findIdx? (·.1) = none := by rfl) : PG X (.Tuple es k pos) (gTup X.K n t) := by
  refine ⟨fun pins s σ H v u Q I r hw => ?_⟩
  obtain ⟨a, xs, e1, hq, hl, hw⟩ := hw
  subst e1
  cases r
  obtain ⟨x1, hot⟩ := hz.hot I
  obtain ⟨its, rv, ht, _⟩ := I.tuple hq
  refine assign_tup_hot hot ht (by simp [hn, ← hl, rv.length]) hst fun h' hx => ?_
  have I1 : Inv X pins σ H { s with heap := h' } := I.kept (t' := s.toks) fun b o e => hx b o (Nat.ne_of_lt (Heap.lt_size e)) e
  exact h.run pins _ σ H xs _ Q I1 (by simpa using rv) hw
end
end DV
set_option maxHeartbeats 2000000
namespace DV
open PySem PySem.Spec PyProof.Rows L2 HotX L2H
/-! ### a list comprehension over a list, while an exception is handled -/
theorem Hotter.blk {X : Cx} {pins : List (Addr × Obj)} {σ : SV} {H : Hp} {s : Shared} {scope : Scope} {ce : Env} {fp : List Addr} (hc : HotC X) (I : Inv X pins σ H s) (hfp : ∀ b ∈ fp, FpOk X pins H b) : Hotter (X.blk s H scope ce fp) := ⟨fun {pins' σ' H' s'} J => by
  obtain ⟨p, ⟨hh, v1, e1, c1⟩, hp⟩ := hc
  have hp' : p ∈ X.pn ++ pins := List.mem_append_left _ hp
  obtain ⟨g1, g2, g3, g4, _⟩ := I.pin p hp'
  have nf : p.1 ∉ frs X.stack := fun hm => (List.mem_cons.mp (I.stkSub p.1 hm)).elim g3 g4
  have nx : p.1 ∉ fp := fun hm => (hfp p.1 hm).2.2.2.2.2 p hp' rfl
  exact ⟨p.1, hh, p.2, v1, J.base.keep p.1 p.2 g1 g2 nf nx, e1, c1⟩⟩
/-- [elt for tg in a list if ..]: D the new list, W what holds ahead of each turn -/
def tLz (K : PySem.W.Frag) (tl : TE) (g : TG) (tt : TT) (te : TE) (vs : List Nat) : TE := fun σ H Q => tl σ H fun x H1 => ∃ a xs, x = .ref a ∧ SqL K H1 a xs ∧ ∀ D, H1 D = none → ∃ W : Nat → Hp → Prop, W 0 (upd H1 D (.lst [])) ∧
  ∀ i H, i ≤ xs.length → W i H → SqL K H a xs ∧ (i = xs.length → Q (.ref D) H) ∧ ∀ y, xs[i]? = some y → g y (wipe σ vs) H fun σ2 H2 => wipe σ2 vs = wipe σ vs ∧ tt σ2 H2 fun b H3 =>
    if b = true then te σ2 H3 fun z H4 => ∃ acc, H4 D = some (.lst acc) ∧ acc.length < sizeLine ∧ W (i + 1) (upd H4 D (.lst (acc ++ [z]))) else W (i + 1) H3
section
variable {X : Cx}
theorem pe_lz {elt tg iter : Expr} {ifs : List Expr} {scope : Scope} {own : List (Str × Nat)} {pos : Pos} {tl : TE} {g : TG} {tt : TT} {te : TE} (hc : HotC X) (hN : X.N.Nodup) (hl : PE X iter tl) (ok : BlkOk X.N X.env.scope scope own)
    (hg : ∀ (s : Shared) (H : Hp) (C : Addr) (cl : List (Str × Addr)) (fp : List Addr), Hotter (X.blk s H scope (compEnvC scope cl C X.env) fp) → PG (X.blk s H scope (compEnvC scope cl C X.env) fp) tg g)
    (ht : ∀ (s : Shared) (H : Hp) (C : Addr) (cl : List (Str × Addr)) (fp : List Addr), Hotter (X.blk s H scope (compEnvC scope cl C X.env) fp) → PTs (X.blk s H scope (compEnvC scope cl C X.env) fp) ifs tt)
    (he : ∀ (s : Shared) (H : Hp) (C : Addr) (cl : List (Str × Addr)) (fp : List Addr), Hotter (X.blk s H scope (compEnvC scope cl C X.env) fp) → PE (X.blk s H scope (compEnvC scope cl C X.env) fp) elt te) (hs : ∀ x, foldedSetIterable iter X.env x = pure x := by intro _; rfl) :
    PE X (.ListComp elt [⟨tg, iter, ifs, 0⟩] scope pos) (tLz X.K tl g tt te (own.map (·.2))) := by
  refine ⟨fun pins s σ H Q I h => ?_⟩
  rw [eval_ListComp]
  have hfree : ∀ y ∈ scope.names, y.2 = .free → ∃ c, X.env.cells.lookup y.1 = some c := fun y hy e => by
    rcases ok.free y hy e with k | k
    · exact I.ok.has _ (.inl k)
    · exact I.ok.has _ (.inr k)
  refine wpAny_comprehension_free (use := none) rfl hs (closure_ok hfree) ok.kind (fun y hy e => by rw [ok.uniq y hy, e])
    (thn (hl.run pins s σ H _ I h) fun xv s1 ⟨x, H1, I1, r1, a, xs, ex, hq, q⟩ => ?_)
  subst ex
  cases r1
  obtain ⟨its, rv, pl, hsz⟩ := I1.list hq
  refine wpAny_pyIter_list pl.isList ?_
  -- the iterator
  generalize hs2 : ({ s1 with heap := s1.heap.push { cls := .type "list_iterator", data := .fields #[.ref a, .int (0 : Nat) 0] } } : Shared) = s2
  have I2 : Inv X pins σ H1 s2 := by rw [← hs2]; exact I1.kept (t' := s1.toks) fun b o e => Heap.get?_push_of_some _ e
  generalize hit : s1.heap.objs.size = it
  have st2 : s2.heap.IsListIter it a 0 := by rw [← hs2, ← hit]; exact ⟨_, Heap.get?_push_size _ rfl, rfl, rfl⟩
  have f2 : FpOk X pins H1 it := I1.fpOk (Nat.le_of_eq hit) (I1.hok.fresh (Nat.le_of_eq hit))
  refine wpAny_newObj_type (newEnv_comp ?_) (by show 0 ≤ sizeLine; decide)
  generalize hD : s2.heap.objs.size = D
  have hDn : H1 D = none := I2.hok.fresh (Nat.le_of_eq hD)
  obtain ⟨W, w0, turn⟩ := q D hDn
  -- the new list
  generalize hs3 : ({ s2 with heap := s2.heap.push { cls := .type "list", data := .seq ([] : List Value).toArray } } : Shared) = s3
  have I3 : Inv X pins σ (upd H1 D (.lst [])) s3 := by
    rw [← hs3]
    refine I2.laid (t' := s2.toks) (fun b o e => Heap.get?_push_of_some _ e) (Nat.le_of_eq hD) ⟨Nat.zero_le _, [], 0, .nil, ?_⟩
    rw [← hD]
    exact Heap.get?_push_size _ rfl
  have h3 : s3.heap = s2.heap.push { cls := .type "list", data := .seq ([] : List Value).toArray } := by rw [← hs3]
  have hlt : it < s2.heap.objs.size := by obtain ⟨o, e, _⟩ := st2; exact Heap.lt_size e
  have f3 : FpOk X pins (upd H1 D (.lst [])) it ∧ it < s3.heap.objs.size := by
    refine ⟨⟨?_, f2.2⟩, by rw [h3, Heap.size_push]; exact Nat.lt_succ_of_lt hlt⟩
    rw [upd_ne (by rw [← hD]; exact Nat.ne_of_lt hlt)]
    exact f2.1
  have f3' : ∀ b ∈ [it], FpOk X pins (upd H1 D (.lst [])) b ∧ b < s3.heap.objs.size := fun b hb => by
    have e : b = it := by simpa using hb
    rw [e]; exact f3
  have st3 : s3.heap.IsListIter it a 0 := st2.at fun o e => by rw [h3]; exact Heap.get?_push_of_some _ e
  have I4 := block_start I3 ok hN f3'
  have hz : ∀ ce, Hotter (X.blk s3 (upd H1 D (.lst [])) scope ce [it]) := fun ce => Hotter.blk hc I3 fun b hb => (f3' b hb).1
  have pg := hg s3 (upd H1 D (.lst [])) s3.heap.objs.size (cellsFrom (s3.heap.objs.size + 1) scope.names (cloFrom X.env.cells scope.names [])) [it] (hz _)
  have pt := ht s3 (upd H1 D (.lst [])) s3.heap.objs.size (cellsFrom (s3.heap.objs.size + 1) scope.names (cloFrom X.env.cells scope.names [])) [it] (hz _)
  have pe := he s3 (upd H1 D (.lst [])) s3.heap.objs.size (cellsFrom (s3.heap.objs.size + 1) scope.names (cloFrom X.env.cells scope.names [])) [it] (hz _)
  show codeAny _ _ (.compStart (.ListComp elt [⟨tg, iter, ifs, 0⟩] scope pos) 0 (.ref it) (.ref D) (compEnvC scope (cellsFrom (s3.heap.objs.size + 1) scope.names (cloFrom X.env.cells scope.names [])) s3.heap.objs.size X.env)) (compPost (model X.prog X.w) X.A X.xe none (EP X pins σ Q) (.ref D) s3.heap.objs.size) { s3 with heap := pushCells (s3.heap.push { cls := .type "dict", data := .dict #[] }) scope.names }
  generalize hce : compEnvC scope (cellsFrom (s3.heap.objs.size + 1) scope.names (cloFrom X.env.cells scope.names [])) s3.heap.objs.size X.env = ce at I4 pg pt pe ⊢
  have cL : ce.locals = s3.heap.objs.size := by subst hce; rfl
  have hz := hz ce
  generalize hH3 : upd H1 D (.lst []) = H3 at I3 I4 pg pt pe w0 f3 f3' hz
  generalize hs4 : ({ s3 with heap := pushCells (s3.heap.push { cls := .type "dict", data := .dict #[] }) scope.names } : Shared) = s4 at I4 ⊢
  have st4 : s4.heap.IsListIter it a 0 := st3.at fun o e => by rw [← hs4]; exact pushCells_keeps _ _ _ _ (Heap.get?_push_of_some _ e)
  have stat : ∀ {σ' : SV} {H' : Hp} {s' : Shared}, Inv (X.blk s3 H3 scope ce [it]) [] σ' H' s' → H' it = none → ∀ b ∈ [it], FpOk (X.blk s3 H3 scope ce [it]) [] H' b := fun {σ' H' s'} I' hn b hb => by
    have e : b = it := by simpa using hb
    subst e
    exact ⟨hn, (I'.ok.exf b hb).1, I'.ok.exfs b hb, .inl hb, fun x c e => (I'.ok.exf b hb).2 x c e, fun p hp => absurd (show p ∈ ([] : List (Addr × Obj)) ++ [] from hp) (by simp)⟩
  have loop : codeAny (model X.prog X.w) X.A (.compLoop (.ListComp elt [⟨tg, iter, ifs, 0⟩] scope pos) 0 (.ref it) (.ref D) ce) (compPost (model X.prog X.w) X.A X.xe none (EP X pins σ Q) (.ref D) s3.heap.objs.size) s4 := by
    refine compLoop_any (fun n s' => ∃ i H', n + i = xs.length ∧ Inv (X.blk s3 H3 scope ce [it]) [] (wipe σ (own.map (·.2))) H' s' ∧ s'.heap.IsListIter it a i ∧ H' it = none ∧ W i H') ?_ xs.length ⟨0, H3, rfl, I4, st4, f3.1.1, w0⟩
    rintro n s5 ⟨i, H5, hni, I5, st5, n5, w5⟩
    obtain ⟨hq5, stop, step⟩ := turn i H5 (by omega) w5
    obtain ⟨its5, rv5, p5, _⟩ := I5.list hq5
    have hl5 := rv5.length
    obtain ⟨_, k1, k2, k3, k4, k5⟩ := stat I5 n5 it (by simp)
    cases n with
    | zero =>
      have hi : i = xs.length := by omega
      obtain ⟨x1, hot⟩ := hz.hot I5
      refine thnF (list_end_hot (E := fun _ _ => False) (Q := fun r s6 => r = none ∧ Inv (X.blk s3 H3 scope ce [it]) [] (wipe σ (own.map (·.2))) H5 s6) hot st5 p5.isList (by simp; omega) fun h' eb => ⟨rfl, I5.turned (t' := s5.toks) (fun b o hb e => eb b o hb e) n5 k1 k3 k4 k5⟩) fun r s6 ⟨hr, I6⟩ => ?_
      subst hr
      have I7 : Inv X pins σ H5 s6 := I3.call' (ch := [it]) I6.os I6.base I6.hok I6.bare fun b hb => ⟨(f3' b hb).1.2.2.2.1, (f3' b hb).1.2.1, (f3' b hb).1.2.2.2.2.1, (f3' b hb).1.2.2.2.2.2⟩
      have nC : H5 s3.heap.objs.size = none := by
        have z : H5 ce.locals = none := I6.free
        rw [cL] at z
        exact z
      obtain ⟨m, hn, _⟩ := I6.loc
      have hn : s6.heap.Ns ce.locals m := hn
      rw [cL] at hn
      refine ⟨m, hn, fun h'' sb => ?_⟩
      obtain ⟨f0, f1, f2, f3, f4, f5⟩ := I3.fpOk (Nat.le_refl _) nC
      exact ⟨.ref D, H5, I7.turned (t' := s6.toks) (fun b o hb e => (sb.2 b hb).trans e) f0 f1 f3 f4 f5, rfl, stop hi⟩
    | succ n =>
      have hi : i < xs.length := by omega
      obtain ⟨u, hu, ru⟩ := rv5.get (List.getElem?_eq_getElem hi)
      refine thnF (wpAny_pyNext_list_item (E := fun _ _ => False) (Q := fun r s6 => r = some u ∧ Inv (X.blk s3 H3 scope ce [it]) [] (wipe σ (own.map (·.2))) H5 s6 ∧ s6.heap.IsListIter it a (i + 1)) st5 p5.isList (x := u) (by simpa using hu) fun h' st' sb => ⟨rfl, I5.turned (t' := s5.toks) (fun b o hb e => (sb.2 b hb).trans e) n5 k1 k3 k4 k5, st'⟩) fun r s7 ⟨hr, I7, st7⟩ => ?_
      subst hr
      obtain ⟨o7, e7, c7, d7⟩ := id st7
      refine go_of e7 c7 d7 (by decide) ?_
      have I7' := I7.pinned (stat I7 n5) (fun b hb => by
        have e : b = it := by simpa using hb
        subst e
        exact ⟨o7, e7, fun v z => by rw [d7] at z; cases z⟩)
      refine thnF (pg.run _ s7 _ H5 _ u _ I7' ru (step _ (List.getElem?_eq_getElem hi))) fun _ s8 ⟨σ8, H8, I8, hw8, q8⟩ => ?_
      refine thnF (pt.run _ s8 σ8 H8 _ I8 q8) fun b s9 ⟨H9, I9, q9⟩ => ?_
      have fin : ∀ {s' : Shared} {H' : Hp}, Inv (X.blk s3 H3 scope ce [it]) ([] ++ pinsAt [it] s7.heap) σ8 H' s' → W (i + 1) H' → ∃ m, m < n + 1 ∧ ∃ i H', m + i = xs.length ∧ Inv (X.blk s3 H3 scope ce [it]) [] (wipe σ (own.map (·.2))) H' s' ∧ s'.heap.IsListIter it a i ∧ H' it = none ∧ W i H' := fun {s' H'} I' nx => by
        have pin' := I'.pin (it, o7) (List.mem_append_right _ (List.mem_append_right _ (mem_pinsAt (by simp) e7)))
        have hl : (wipe σ (own.map (·.2))).length = σ8.length := by rw [← hw8, wipe_length]
        refine ⟨n, by omega, i + 1, H', by omega, (I'.unpinned (pins := [])).weak hl (fun j v e => ?_), st7.at fun o e => by rw [e7] at e; cases e; exact pin'.1, pin'.2.1, nx⟩
        rw [← hw8] at e
        exact (wipe_some e).1
      cases b with
      | false =>
        simp only [Bool.false_eq_true, if_false] at q9 ⊢
        exact fin I9 q9
      | true =>
        simp only [if_true] at q9 ⊢
        refine thnF (pe.run _ s9 σ8 H9 _ I9 q9) fun z s10 ⟨yv, H10, I10, r10, acc, hD10, hz10, nx⟩ => ?_
        exact app_ok (X := X.blk s3 H3 scope ce [it]) I10 hD10 hz10 r10 fun s11 I11 => fin I11 nx
  exact codeAny_compStart_list loop (wpAny_pyIter_listiter st4 loop)
end
end DV
set_option maxHeartbeats 2000000
namespace DV
open PySem PySem.Spec L2 L2H
/-! ### a def that was handed the exception that is handled -/
structure ErrCx (Y : Cx) (a : Addr) (oe : Obj) (cls : Value) (d : Option Addr) : Prop where
  pin : (a, oe) ∈ Y.pn
  zn : L2N.Zn cls d oe
  fld : ∃ vs, oe.data = .fields vs
  hh : Y.A.handled = some (.ref a)
theorem ErrCx.hot {Y : Cx} {a : Addr} {oe : Obj} {cls : Value} {d : Option Addr} (h : ErrCx Y a oe cls d) : HotC Y := by
  obtain ⟨vs, hv⟩ := h.fld
  exact ⟨(a, oe), ⟨h.hh, vs, hv, h.zn.2.2 vs hv⟩, h.pin⟩
theorem XAt.set {M : MC} {a : Addr} {cls : Value} {d : Option Addr} {σ : SV} {Z H : Hp} {x : Exn} {j : Nat} {u : Option V} (hj : j ≠ 0) (h : XAt M (some 0) a cls d σ Z H x) : XAt M (some 0) a cls d (σ.set j u) Z H x :=
  ⟨h.1, fun i hi => by cases hi; rw [List.getElem?_set_ne hj]; exact h.2.1 0 rfl, h.2.2⟩
/-- what isinstance asks of an own class of errors -/
structure SelfC (K : PySem.W.Frag) (C : Addr) : Prop where
  cl : (PySem.W.clsIn K C).isSome = true
  hg : PySem.W.findIn K (.ref C) "__getattribute__" = some (some (.builtin "BaseException.__getattribute__"))
  hk : PySem.W.findIn K (.ref C) "__getattr__" = some none
  hs : PySem.W.subIn K (.ref C) (.type "BaseException") = some true
  ha : PySem.W.findIn K (.ref C) "__class__" = some (some (.builtin "object.__class__"))
  hn : PySem.W.specialIn K (.builtin "object.__class__") "__get__" = some (some (.builtin "getset_descriptor.__get__"))
  ht : PySem.W.takesIn K (.builtin "object.__class__") = some true
  hm : PySem.W.mroIn K C (.type "object") = some true
/-- isinstance(e, c): what it tells, told by e's class -/
def IsTbl (K : PySem.W.Frag) (mg : Str → Option Value) (cv : Value) (tbl : List (Str × Bool)) : Prop := ∀ c b, tbl.lookup c = some b → ∃ C, mg c = some (.ref C) ∧ SelfC K C ∧ PySem.W.kitOne K (.ref C) cv = some b
def fIs (tbl : List (Str × Bool)) : XF := fun x => (tbl.lookup x.c).map .bl
/-- a new thing changes -/
theorem Grow.over {Z H Z' H' : Hp} {p : Addr} {o : HO} (g : Grow Z H Z' H') (hp : H p = none) (zp : Z' p = none) : Grow Z H Z' (upd H' p o) where
  sub := g.sub
  sub' := ⟨fun b u hu t => by
    have : b ≠ p := fun z => by rw [z, zp] at hu; cases hu
    rw [upd_ne this]; exact g.sub'.th _ _ hu t, fun b hu => by
    have : b ≠ p := fun z => hu (by rw [z]; exact zp)
    rw [upd_ne this]; exact g.sub'.al _ hu⟩
  kept := fun b hb => by
    have : b ≠ p := fun z => hb (by rw [z]; exact hp)
    rw [upd_ne this]
    exact g.kept b hb
  tags := g.tags
section
variable {Y : Cx} {a : Addr} {oe : Obj} {cls : Value} {d : Option Addr} {io : Option Nat} {e c : Expr} {es : List Expr} {pos p : Pos}
def rIsZ (K : PySem.W.Frag) (a : Addr) (cls : Value) (d : Option Addr) : List V → Hp → VK → Prop := fun xs H Q => ∃ (w : V) (cv : Value) (b : Bool) (C : Addr), xs = [.ref a, w] ∧ (∀ u, RelV w u → u = cv) ∧ cls = .ref C ∧ SelfC K C ∧ PySem.W.kitOne K (.ref C) cv = some b ∧
  (d = none ∨ ∃ dd fs, d = some dd ∧ H dd = some (.xd fs)) ∧ Q (.bl b) H
theorem call_isZ (E : ErrCx Y a oe cls d) : CallR Y (.builtin "isinstance") (rIsZ Y.K a cls d) := by
  intro pins s σ H xs us Q I r h
  obtain ⟨w, cv, b, C, rfl, hcv, hC, T, e, hd, q⟩ := h
  cases r with
  | cons rx rr =>
    cases rr with
    | cons rt rr =>
      cases rr
      cases rx
      have ec := hcv _ rt
      subst ec
      obtain ⟨hget, _⟩ := I.pin (a, oe) (List.mem_append_left _ E.pin)
      obtain ⟨vs, hv⟩ := E.fld
      have J : ∃ od, PySem.W.InstAt s.heap a oe C od := by
        rcases hd with hd | ⟨dd, fs, hd, ea⟩
        · exact ⟨none, hget, E.zn.1.trans hC, by unfold PySem.W.notCls; rw [hv] <;> rfl, by rw [E.zn.2.1, hd]; trivial⟩
        · have hx : ObjOk Y.prog Y.w H s.heap dd (.xd fs) := I.hok dd _ ea
          obtain ⟨mA, hns, hr⟩ := hx
          obtain ⟨od, ho, hl⟩ := lookIn_ns hns
          exact ⟨some od, hget, E.zn.1.trans hC, by unfold PySem.W.notCls; rw [hv] <;> rfl, by rw [E.zn.2.1, hd]; exact ho⟩
      obtain ⟨od, J⟩ := J
      exact PySem.W.kia_one (PySem.W.kitx_exc T.cl T.hg T.hk T.hs T.ha T.hn T.ht T.hm) I.kIn J e (fun z => nomatch z) fun tk => ⟨.bl b, H, I.kept (t' := tk) fun _ _ z => z, rfl, q⟩
theorem vy_isi {w : V} {cv : Value} {tbl : List (Str × Bool)} (E : ErrCx Y a oe cls d) (T : IsTbl Y.K Y.mg cv tbl) (he : PE Y e (tVar 0)) (hC : PE Y c (tC w)) (hw : ∀ u, RelV w u → u = cv) (hg : Gl Y "isinstance") (hm : Y.mg "isinstance" = none)
    (hs : starEach [e, c] Y.env = (false, eval e Y.env) :: starEach [c] Y.env := by rfl) (hs2 : starEach [c] Y.env = (false, eval c Y.env) :: starEach [] Y.env := by rfl) (hpl : (backTo pos (starEach [c] Y.env)).any (·.1) = false := by rfl) :
    PE Y (.Call (.Name "isinstance" p) [e, c] [] pos) (tVx (mc Y) (some 0) a cls d (fIs tbl)) :=
  weakE (pe_callB (call_isZ E) hg hm PyProof.Rows.boot_isinstance (pa_cons he (pa_cons hC pa_nil hs2) hs) (by decide) (by decide) hs hpl) fun σ H Q ⟨x, dv, Z, e1, ⟨h1, h2, h3⟩, q⟩ => by
    unfold fIs at e1
    cases hl : tbl.lookup x.c with
    | none => rw [hl] at e1; cases e1
    | some b =>
      rw [hl] at e1
      cases e1
      obtain ⟨C, m1, T1, T2⟩ := T _ _ hl
      obtain ⟨C', g1, g2, g3⟩ := h3
      have m1' : (mc Y).mg x.c = some (.ref C) := m1
      rw [m1'] at g2
      cases g2
      refine ⟨.ref a, h2 0 rfl, w, cv, b, C, rfl, hw, g1, T1, T2, ?_, q Z H _ (.refl h1) (.bl b)⟩
      rcases g3 with ⟨g3, _⟩ | ⟨dd, vs, g3, g4, _⟩
      · exact .inl g3
      · exact .inr ⟨dd, _, g3, h1.th _ _ g4 rfl⟩
theorem vy_str {x : Str} {j : Nat} : PE Y (.Constant (.str x) j pos) (tVx (mc Y) io a cls d (fC (.str x))) := weakE pe_str fun σ H Q ⟨x', dv', Z, e1, ⟨h1, h2, h3⟩, q⟩ => by
  cases e1
  exact q Z H _ (.refl h1) (.str x)
theorem vy_nil : PA Y [] (tVxs (mc Y) io a cls d fNil) := weakA pa_nil fun σ H Q ⟨x, dv, Z, e1, ⟨h1, h2, h3⟩, q⟩ => by
  cases e1
  exact q Z H [] (.refl h1) .nil
theorem vy_cons {f : XF} {g : Exn → Option (List D)} (ha : PE Y e (tVx (mc Y) io a cls d f)) (hr : PA Y es (tVxs (mc Y) io a cls d g)) (hs : starEach (e :: es) Y.env = (false, eval e Y.env) :: starEach es Y.env := by rfl) : PA Y (e :: es) (tVxs (mc Y) io a cls d (fCons f g)) :=
  weakA (pa_cons ha hr hs) fun σ H Q ⟨x, dv, Z, e1, hx, q⟩ => by
    unfold fCons at e1
    split at e1
    · rename_i d1 ds1 q1 q2
      cases e1
      refine ⟨x, d1, Z, q1, hx, fun Z1 H1 v g1 r1 => ⟨x, ds1, Z1, q2, hx.grow g1, fun Z2 H2 vs g2 r2 => q Z2 H2 (v :: vs) (g1.trans g2) (.cons (r1.mono g2.sub) r2)⟩⟩
    · cases e1
theorem vy_tup {k : Nat} {g : Exn → Option (List D)} (h : PA Y es (tVxs (mc Y) io a cls d g)) : PE Y (.Tuple es k pos) (tVx (mc Y) io a cls d (fTup g)) :=
  weakE (pe_tupF h) fun σ H Q ⟨x, dv, Z, e1, hx, q⟩ => by
  unfold fTup at e1
  split at e1
  · rename_i ds q1
    split at e1
    · rename_i hl
      cases e1
      refine ⟨x, ds, Z, q1, hx, fun Z1 H1 vs g1 r1 => ⟨by rw [r1.length]; exact lim_line hl, fun p o hp ho => ?_⟩⟩
      have g2 := Grow.frz (o := .frz o (.tup vs)) g1.sub' hp
      exact q _ _ (.ref p) (g1.trans g2) (.tup (.inl ⟨o, upd_same, ho⟩) (r1.mono g2.sub))
    · cases e1
  · cases e1
end
/-! ### the list of the kinds -/
def KS (M : MC) (a : Addr) (cls : Value) (d : Option Addr) (x : Exn) (ps : List D) (σ : SV) (Z H : Hp) : Prop := XAt M (some 0) a cls d σ Z H x ∧ 1 < σ.length ∧ ∃ l vs, σ[1]? = some (some (V.ref l)) ∧ H l = some (.lst vs) ∧ Z l = none ∧ Rps M Z vs ps
section
variable {Y : Cx} {a : Addr} {oe : Obj} {cls : Value} {d : Option Addr} {es : List Expr} {pos p p2 lp bp : Pos} {nm : Str} {g : Exn → Option (List D)}
def tKMake (M : MC) (a : Addr) (cls : Value) (d : Option Addr) (g : Exn → Option (List D)) : TS := fun D σ H => ∃ x ds Z, g x = some ds ∧ ds.length ≤ 1000 ∧ XAt M (some 0) a cls d σ Z H x ∧ 1 < σ.length ∧ ∀ σ' Z' H', KS M a cls d x ds σ' Z' H' → σ'.length = σ.length → Grow Z H Z' H' → D.nx σ' H'
theorem line_small {n : Nat} (h : n ≤ 2000) : n ≤ sizeLine := by rw [sizeLine_eq]; omega
theorem ky_make (nd : Y.N.Nodup) (h : PA Y es (tVxs (mc Y) (some 0) a cls d g)) (hi : Y.N[1]? = some nm) (hx : Loc Y.env.scope nm) (hs : swapsWith (.List es lp) (some (.Name nm p)) pos.line Y.env = pure false)
    (hf : Y.fn nm = true ∨ Y.env.scope.names.lookup nm = some .local) : PS Y (.Assign [.Name nm p] (.List es lp) pos) (tKMake (mc Y) a cls d g) :=
  weakS (ps_set (i := 1) nd hi hx (pe_lst h) hs hf) fun D σ H ⟨x, ds, Z, e1, hl, hx, h1, q⟩ => by
    refine ⟨x, ds, Z, e1, hx, fun Z1 H1 vs g1 r1 => ⟨by rw [r1.length]; exact line_small (by omega), fun l hl0 => ?_⟩⟩
    have g2 := Grow.own (o := .lst vs) g1.sub' hl0
    have zl : Z1 l = none := none_of_sub g1.sub' hl0
    exact q _ _ _ ⟨((hx.grow g1).grow g2).set (by decide), by rw [List.length_set]; exact h1, l, vs, List.getElem?_set_self h1, upd_same, zl, r1⟩ (by rw [List.length_set]) (g1.trans g2)
def tKMore (M : MC) (a : Addr) (cls : Value) (d : Option Addr) (g : Exn → Option (List D)) : TS := fun D σ H => ∃ x ds ps Z, g x = some ds ∧ ds.length ≤ 1000 ∧ ps.length ≤ 1000 ∧ KS M a cls d x ps σ Z H ∧ ∀ σ' Z' H', KS M a cls d x (ps ++ ds) σ' Z' H' → σ'.length = σ.length → Grow Z H Z' H' → D.nx σ' H'
theorem ky_more (nd : Y.N.Nodup) (hn : PE Y (.Name nm p2) (tVar 1)) (h : PA Y es (tVxs (mc Y) (some 0) a cls d g)) (hi : Y.N[1]? = some nm) (hx : Loc Y.env.scope nm) (hs : swapsWith (.BinOp (.Name nm p2) .Add (.List es lp) bp) (some (.Name nm p)) pos.line Y.env = pure false)
    (hf : Y.fn nm = true ∨ Y.env.scope.names.lookup nm = some .local) : PS Y (.Assign [.Name nm p] (.BinOp (.Name nm p2) .Add (.List es lp) bp) pos) (tKMore (mc Y) a cls d g) :=
  weakS (ps_set (i := 1) nd hi hx (pe_op op_cat hn (pe_lst h)) hs hf) fun D σ H ⟨x, ds, ps, Z, e1, hl, hp, ⟨hx, h1, l, vs, s1, s2, s3, s4⟩, q⟩ => by
    refine ⟨.ref l, s1, x, ds, Z, e1, hx, fun Z1 H1 zs g1 r1 => ⟨by rw [r1.length]; exact line_small (by omega), fun b hb0 => ?_⟩⟩
    have g2 := Grow.own (o := .lst zs) g1.sub' hb0
    have hl1 : H1 l = some (.lst vs) := (g1.kept l (by rw [s2]; simp)).1.trans s2
    have nlb : l ≠ b := fun z => by rw [z, hb0] at hl1; cases hl1
    refine ⟨l, b, vs, zs, rfl, rfl, by rw [upd_ne nlb]; exact hl1, upd_same, by rw [s4.length, r1.length]; exact line_small (by omega), fun m hm0 => ?_⟩
    have g3 := Grow.own (o := .lst (vs ++ zs)) g2.sub' hm0
    have zm : Z1 m = none := none_of_sub g2.sub' hm0
    exact q _ _ _ ⟨(((hx.grow g1).grow g2).grow g3).set (by decide), by rw [List.length_set]; exact h1, m, vs ++ zs, List.getElem?_set_self h1, upd_same, zm, (s4.mono g1.sub).append r1⟩ (by rw [List.length_set]) ((g1.trans g2).trans g3)
end
end DV
set_option maxHeartbeats 2000000
namespace DV
open PySem PySem.Spec PyProof.Rows L2 L2H
/-! ### a call, in an except suite, of a def that is handed the exception -/
structure FnZ (P : Program) (w : World) (K : PySem.W.Frag) (mg : Str → Option Value) (base : Heap) (k : Nat) (f : Addr) (fd : FuncData) (ps : List Str) (sp : Addr × Obj → Sp) : Prop where
  len : ∀ p vs H Q E, sp p vs H Q E → vs.length = ps.length
  run : ∀ (A : Around) (outer : List Env) (s : Shared) (H : Hp) (args : Args) (us : List Value) (vs : List V) (Q : VK) (E : XK) (p : Addr × Obj), RoomH k A → Hot1 A p → PinOk outer H s p → Env0 P w K mg base A outer s H → BindsTo s fd args (ps.zip us) → Vals vs us → sp p vs H Q E →
    codeAny (model P w) A (.call (.ref f) args) (CR (L2N.CX P w) outer P w H s Q E) s
section
variable {P : Program} {w : World} {K : PySem.W.Frag} {mg : Str → Option Value} {base : Heap}
theorem okZ {x qual : Str} {st : Stmt} {f : Addr} {fd : FuncData} {N ps : List Str} {k : Nat} {sp : Addr × Obj → Sp} (F : Fun K x qual st f fd) (S : FnScope N ps (defScope st)) (len : ∀ p vs H Q E, sp p vs H Q E → vs.length = ps.length)
    (hbody : ∀ (cdv : Value) (A : Around) (outer : List Env) (s : Shared) (H : Hp) (vs : List V) (Q : VK) (E : XK) (p : Addr × Obj), Hot1 A p → RoomH k (A.deeper (PyProof.Rows.envOfC qual (defScope st) s.heap.objs.size f cdv)) → sp p vs H Q E →
      ∃ t, PSs (cxH (L2N.CX P w) P w K mg base N qual (defScope st) f cdv A outer s H E p) (defBody st) t ∧ t { nx := fun _ H' => Q .non H', rt := Q } (L2.start N vs) H) : FnZ P w K mg base (k + 1) f fd ps sp := by
  obtain ⟨oc, od, kV, doc, pm, an, cdv, ct, osl, rfl, lk, hcd⟩ := F.ex
  refine ⟨len, fun A outer s H args us vs Q E p hr hot hpin e0 hb r hsp => ?_⟩
  have hl := len _ _ _ _ _ hsp
  have KX : K.In s.heap := e0.mod.kin.keeps fun b o e => (e0.bs b o e).1
  have lim : s.heap.NoLimit := e0.mod.nolimit.keeps fun b o e => (e0.bs b o e).1
  have hkind : ∀ y ∈ ps.zip us, (defScope st).names.lookup y.1 = some .local ∨ ((defScope st).names.lookup y.1 = some .cell ∧ ((cellsFrom (s.heap.objs.size + 1) (defScope st).names []).lookup y.1).isSome = true) := fun ⟨n, v⟩ hy => by
    rcases S.par n (List.of_mem_zip hy).1 with q | q
    · exact .inl q
    · exact .inr ⟨q, PySem.W.cellsFrom_some _ _ _ (.inl q)⟩
  refine codeAny_call_function hr.depth (KX _ _ lk) rfl S.co S.gen rfl (PySem.W.codeRec_of KX hcd) (hb _ _ _ _ ?_)
  refine wpAny_newFunctionEnv_cells S.kind hkind fun env he s1 x => ?_
  subst he
  refine ⟨lim.keeps x.toInCall.keep, codeAny_func ?_⟩
  obtain ⟨t, ht, hq⟩ := hbody cdv A outer s H vs Q E p hot (hr.deeper _) hsp
  refine wpAny_mono (ht.run [] s1 (L2.start N vs) H _ (inv_startH S hpin e0 hl r x) hq) (fun fl s' hs => ?_) fun e s' hs => hs
  cases fl with
  | ret u =>
    obtain ⟨v, σ', H', J, rv, q⟩ := hs
    exact ⟨v, H', J.os, J.bare, J.base, J.hok, rv, q⟩
  | next =>
    obtain ⟨σ', H', J, q⟩ := hs
    exact ⟨.non, H', J.os, J.bare, J.base, J.hok, rfl, q⟩
  | brk =>
    obtain ⟨_, _, _, q⟩ := hs
    exact q.elim
  | cont =>
    obtain ⟨_, _, _, q⟩ := hs
    exact q.elim
end
section
variable {X : Cx} {k : Nat} {f : Addr} {fd : FuncData} {ps : List Str} {sp : Addr × Obj → Sp} {x : Str} {q pos : Pos} {e : Expr} {es : List Expr} {t : TA}
def tCallZ (sp : Addr × Obj → Sp) (p : Addr × Obj) (t : TA) : TE := fun σ H Q => t σ H fun vs H1 => sp p vs H1 Q fun _ _ _ => False
theorem pe_callZ {p : Addr × Obj} (F : FnZ X.prog X.w X.K X.mg X.base k f fd ps sp) (hr : RoomH k X.A) (hot : Hot1 X.A p) (hp : p ∈ X.pn) (hg : Gl X x) (hm : X.mg x = some (.ref f)) (hk : PySem.W.keepIn X.K (.ref f) = true) (hb : Binds X.K fd ps [])
    (ha : PA X (e :: es) t) (hdb : (x == ("__debug__" : Str)) = false := by decide) (he : starEach (e :: es) X.env = (false, eval e X.env) :: starEach es X.env := by rfl) (hpl : (backTo pos (starEach es X.env)).any (·.1) = false := by rfl) :
    PE X (.Call (.Name x q) (e :: es) [] pos) (tCallZ sp p t) := by
  refine ⟨fun pins s σ H Q I h => ?_⟩
  refine wpAny_Call_Name_kw (ld_glob I hg hm ?_ hdb)
  refine PySem.W.callWith_K (h₀ := X.base) I.ok.mod.kin hk (thn (ha.run pos pins s σ H _ I h) fun us s1 ⟨vs, H1, I1, r, q1⟩ => ⟨I1.kIn, ?_⟩) he hpl
  have hl : us.length = ps.length := by rw [← r.length]; exact F.len _ _ _ _ _ q1
  have b := hb s1 us I1.kIn (by rw [List.append_nil]; exact hl)
  rw [List.append_nil] at b
  have P1 := I1.pin p (List.mem_append_left _ hp)
  have hpin : PinOk X.stack H1 s1 p := ⟨P1.1, P1.2.1, fun hm => (List.mem_cons.mp (I1.stkSub p.1 hm)).elim P1.2.2.1 P1.2.2.2.1, P1.2.2.2.2⟩
  refine wpAny_call (codeAny_mono (F.run X.A X.stack s1 H1 ⟨us, []⟩ us vs Q _ p hr hot hpin I1.env0 b r q1) fun r s' hq => ?_)
  cases r with
  | error e =>
    obtain ⟨a, B, H', cls, d, _, _, _, _, _, _, _, z⟩ := hq
    exact z.elim
  | ok fl =>
    cases fl with
    | ret u => exact I1.after hq
    | next => exact False.elim hq
    | brk => exact False.elim hq
    | cont => exact False.elim hq
end
/-! ### the def that tells an error's class -/
def spSort (M : MC) (tbl : List Str) : Addr × Obj → Sp := fun p vs H Q _ => vs = [.ref p.1] ∧ ∃ cls d x Z, L2N.Zn cls d p.2 ∧ (∃ fs, p.2.data = .fields fs) ∧ x.c ∈ tbl ∧ XAt M none p.1 cls d [] Z H x ∧ ∀ Z' H', Grow Z H Z' H' → Q (.str x.c) H'
structure SortOk (P : Program) (w : World) (K : PySem.W.Frag) (mg : Str → Option Value) (base : Heap) (k : Nat) (fn : Str) (ps : List Str) (tbl : List Str) : Prop where
  ex : ∃ f fd, mg fn = some (.ref f) ∧ PySem.W.keepIn K (.ref f) = true ∧ Binds K fd ps [] ∧ FnZ P w K mg base k f fd ps (spSort ⟨K, mg, P, w⟩ tbl)
def fSort (tbl : List Str) : XF := fun x => if x.c ∈ tbl then some (.str x.c) else none
section
variable {X : Cx} {k i : Nat} {fn : Str} {ps : List Str} {tbl : List Str} {q pos : Pos} {e : Expr}
theorem vx_sorts (G : SortOk X.prog X.w X.K X.mg X.base k fn ps tbl) (hr : Room k X.A) (he : ∀ (a : Addr) (oe : Obj) (pn : List (Addr × Obj)), PE (X.suite a ((a, oe) :: pn)) e (tVar i)) (hg : Gl X fn := by rfl) (hdb : (fn == ("__debug__" : Str)) = false := by decide)
    (hs : starEach [e] X.env = (false, eval e X.env) :: starEach [] X.env := by rfl) : VX X (some i) (.Call (.Name fn q) [e] [] pos) (fSort tbl) := fun a oe cls d pn hz hf => by
  obtain ⟨f, fd, hm, hk, hb, ok⟩ := G.ex
  obtain ⟨vs, hv⟩ := id hf
  have hot : Hot1 (X.suite a ((a, oe) :: pn)).A (a, oe) := ⟨rfl, vs, hv, hz.2.2 vs hv⟩
  have hr' : RoomH k (X.suite a ((a, oe) :: pn)).A := ⟨hr.dp, hr.un⟩
  refine weakE (pe_callZ (X := X.suite a ((a, oe) :: pn)) (p := (a, oe)) ok hr' hot List.mem_cons_self hg hm hk hb (pa_cons (he a oe pn) pa_nil hs) hdb hs rfl) fun σ H Q ⟨x, dv, Z, e1, ⟨h1, h2, h3⟩, q⟩ => ?_
  unfold fSort at e1
  split at e1
  · rename_i hc
    cases e1
    exact ⟨.ref a, h2 i rfl, rfl, cls, d, x, Z, hz, hf, hc, ⟨h1, (fun i' z => by cases z), h3⟩, fun Z' H' g => q Z' H' _ g (.str x.c)⟩
  · cases e1
end
end DV
set_option maxHeartbeats 2000000
namespace DV
open PySem PySem.Spec L2 L2H
/-! ### the def's body: the guard, the list of the kinds, the text -/
def prD (p : Str × Bool) : D := .tup [.str p.1, .bl p.2]
theorem prD_rp {M : MC} {Z : Hp} {v : V} {w : Str} {b : Bool} (h : Rp M Z v (prD (w, b))) : ∃ t, v = .ref t ∧ SqT M.K Z t [.str w, .bl b] := by
  unfold prD at h
  cases h with
  | @tup t vs ds h1 h2 =>
    cases h2 with
    | cons r1 r2 =>
      cases r2 with
      | cons r2 r3 =>
        cases r3
        cases r1
        cases r2
        exact ⟨t, rfl, h1.seq⟩
theorem Rps.at {M : MC} {Z : Hp} : ∀ {vs : List V} {ds : List D} {i : Nat} {v : V}, Rps M Z vs ds → vs[i]? = some v → ∃ d, ds[i]? = some d ∧ Rp M Z v d
  | _, _, _, _, .nil, h => by simp at h
  | _, _, 0, _, .cons r _, h => by
    simp only [List.getElem?_cons_zero, Option.some.injEq] at h
    subst h
    exact ⟨_, rfl, r⟩
  | _, _, i + 1, _, .cons _ rs, h => by
    simp only [List.getElem?_cons_succ] at h ⊢
    exact rs.at h
def yesOf (ps : List (Str × Bool)) : List Str := (ps.filter (·.2)).map (·.1)
theorem yesOf_take {ps : List (Str × Bool)} {i : Nat} {w : Str} {b : Bool} (h : ps[i]? = some (w, b)) : yesOf (ps.take (i + 1)) = yesOf (ps.take i) ++ if b = true then [w] else [] := by
  have hi : i < ps.length := (List.getElem?_eq_some_iff.mp h).1
  have e : ps[i] = (w, b) := (List.getElem?_eq_some_iff.mp h).2
  unfold yesOf
  rw [List.take_succ_eq_append_getElem hi, List.filter_append, List.map_append, e]
  cases b <;> rfl
section
variable {Y : Cx} {a : Addr} {oe : Obj} {cls : Value} {d : Option Addr} {pos p rpos apos cp : Pos} {c1 c2 o lc : Expr} {bd : List Stmt} {tb : TS}
def tKJoin (M : MC) (a : Addr) (cls : Value) (d : Option Addr) (sep : Str) : TS := fun D σ H => ∃ x ps Z, KS M a cls d x (ps.map prD) σ Z H ∧ 3 < σ.length ∧ ps.length ≤ 1000 ∧ ((yesOf ps).map (·.length)).sum + (yesOf ps).length * sep.length ≤ 16777216 ∧
  ∀ Z' H', Grow Z H Z' H' → D.rt (.str (Txt.join sep (yesOf ps))) H'
theorem ky_join {sep : Str} (hlc : PE Y lc (tLz Y.K (tVar 1) (gTup Y.K 2 (gCons (gName 2) (gCons (gName 3) gNil))) (tB (tVar 3)) (tVar 2) [2, 3])) (ho : PE Y o (tC (.str sep))) (hs : starEach [lc] Y.env = [(false, eval lc Y.env)])
    (hbase : attributeBase o "join" Y.env (eval o Y.env) = eval o Y.env) (hline : (apos.endLine == cp.line) = true) : PS Y (.Return (some (.Call (.Attribute o "join" apos) [lc] [] cp)) rpos) (tKJoin (mc Y) a cls d sep) :=
  weakS (ps_ret (pe_join ho hlc hs hbase hline)) fun D σ H ⟨x, ps, Z, ⟨hx, h1, l, vs, s1, s2, s3, s4⟩, h3, hp, hj, q⟩ => by
    refine ⟨⟨_, rfl⟩, .ref l, s1, l, vs, rfl, .inl (.inl s2), fun L hL => ?_⟩
    have nlL : l ≠ L := fun z => by rw [z, hL] at s2; cases s2
    have zL : Z L = none := none_of_sub hx.1 hL
    have hlen : vs.length = ps.length := by rw [s4.length, List.length_map]
    refine ⟨fun i H' => Grow Z H Z H' ∧ H' L = some (.lst ((yesOf (ps.take i)).map V.str)), ⟨Grow.own hx.1 hL, by rw [upd_same]; rfl⟩, fun i H' hi ⟨g, hD⟩ => ⟨.inl (.inl ((g.kept l (by rw [s2]; simp)).1.trans s2)), fun hi => ?_, fun y hy => ?_⟩⟩
    · rw [hi, hlen, List.take_of_length_le (Nat.le_refl _)] at hD
      exact ⟨sep, L, yesOf ps, rfl, rfl, .inl (.inl (.inl hD)), hj, q Z H' g⟩
    · obtain ⟨dd, e1, r⟩ := s4.at hy
      rw [List.getElem?_map] at e1
      cases e : ps[i]? with
      | none => rw [e] at e1; cases e1
      | some wb =>
        rw [e] at e1
        obtain ⟨w, b⟩ := wb
        simp only [Option.map_some, Option.some.injEq] at e1
        subst e1
        obtain ⟨t, rfl, ht⟩ := prD_rp r
        have hi' : i < ps.length := (List.getElem?_eq_some_iff.mp e).1
        refine ⟨t, [.str w, .bl b], rfl, seqT g.sub'.th ht, rfl, .str w, [.bl b], rfl, .bl b, [], rfl, rfl, ?_, ?_⟩
        · rw [wipe_set (by simp), wipe_set (by simp), wipe_wipe]
        · have hl3 : 3 < ((wipe σ [2, 3]).set 2 (some (.str w))).length := by rw [List.length_set, wipe_length]; exact h3
          have hl2 : 2 < (wipe σ [2, 3]).length := by rw [wipe_length]; omega
          refine ⟨.bl b, List.getElem?_set_self hl3, b, rfl, ?_⟩
          have ey := yesOf_take e
          cases b with
          | false =>
            refine ⟨g, ?_⟩
            rw [ey]
            simpa using hD
          | true =>
            refine ⟨.str w, by rw [List.getElem?_set_ne (by decide)]; exact List.getElem?_set_self hl2, _, hD, ?_, ?_, ?_⟩
            · have : (yesOf (ps.take i)).length ≤ ps.length := by
                unfold yesOf
                rw [List.length_map]
                exact Nat.le_trans (List.length_filter_le _ _) (by rw [List.length_take]; omega)
              rw [List.length_map, sizeLine_eq]
              omega
            · exact g.over hL zL
            · rw [upd_same, ey]
              simp
/-- tables: isinstance(e, the class named n), told for the classes of tbl -/
def nmTbl (tbl : List Str) (n : Str) : List (Str × Bool) := tbl.map fun c => (c, c == n)
def yesTbl (tbl : List Str) : List (Str × Bool) := tbl.map fun c => (c, true)
theorem look_map {tbl : List Str} {f : Str → Bool} {c : Str} (h : c ∈ tbl) : (tbl.map fun c => (c, f c)).lookup c = some (f c) := by
  induction tbl with
  | nil => simp at h
  | cons y ys ih =>
    rw [List.map_cons, List.lookup_cons]
    cases z : (c == y) with
    | true => simp only; rw [eq_of_beq z]
    | false =>
      simp only
      rcases List.mem_cons.mp h with e | e
      · subst e; simp at z
      · exact ih e
def fPair (tbl : List Str) (n : Str) : XF := fTup (fCons (fC (.str n)) (fCons (fIs (nmTbl tbl n)) fNil))
theorem fPair_eq {tbl : List Str} {n : Str} {x : Exn} (h : x.c ∈ tbl) : fPair tbl n x = some (prD (n, x.c == n)) := by
  have e : fIs (nmTbl tbl n) x = some (.bl (x.c == n)) := by
    unfold fIs nmTbl
    rw [look_map (f := fun c => c == n) h]; rfl
  simp only [fPair, fTup, fCons, fNil, fC, e]
  rw [if_pos (by simp [LIM])]
  rfl
def fPairs (tbl : List Str) : List Str → Exn → Option (List D)
  | [] => fNil
  | n :: ns => fCons (fPair tbl n) (fPairs tbl ns)
theorem fPairs_eq {tbl : List Str} {x : Exn} (h : x.c ∈ tbl) : ∀ ns : List Str, fPairs tbl ns x = some ((ns.map fun n => (n, x.c == n)).map prD)
  | [] => rfl
  | n :: ns => by
    simp only [fPairs, fCons, fPair_eq h, fPairs_eq h ns, List.map_cons]
def tKGuard (M : MC) (a : Addr) (cls : Value) (d : Option Addr) (tbl : List Str) : TS := fun D σ H => ∃ x Z, x.c ∈ tbl ∧ XAt M (some 0) a cls d σ Z H x ∧ ∀ Z' H', Grow Z H Z' H' → D.nx σ H'
theorem ky_guard {tbl : List Str} (h1 : PE Y c1 (tVx (mc Y) (some 0) a cls d (fIs (yesTbl tbl)))) (h2 : PE Y c2 (tVx (mc Y) (some 0) a cls d (fIs (yesTbl tbl)))) (hb : PSs Y bd tb)
    (p1 : ∀ whole, isTrue c1 Y.env whole = (do let v ← whole; standAt c1.pos; holding [v] (truthy v)) := by intro _; rfl) (p2 : ∀ whole, isTrue c2 Y.env whole = (do let v ← whole; standAt c2.pos; holding [v] (truthy v)) := by intro _; rfl) {k1 k2 : Pos} :
    PS Y (.If (.BoolOp .Or [.UnaryOp .Not c1 k1, .UnaryOp .Not c2 k2] p) bd [] pos) (tKGuard (mc Y) a cls d tbl) :=
  weakS (ps_if (PW.pt (pw_or (pt_not (pt_val h1 p1)) (pw_or1 (pt_not (pt_val h2 p2))))) hb pss_nil) fun D σ H ⟨x, Z, hc, hx, q⟩ => by
    have e : fIs (yesTbl tbl) x = some (.bl true) := by
      unfold fIs yesTbl
      rw [look_map (f := fun _ => true) hc]; rfl
    refine ⟨x, .bl true, Z, e, hx, fun Z1 H1 v g1 r1 => ?_⟩
    cases r1
    refine ⟨true, rfl, x, .bl true, Z1, e, hx.grow g1, fun Z2 H2 v g2 r2 => ?_⟩
    cases r2
    exact ⟨true, rfl, q Z2 H2 (g1.trans g2)⟩
end
/-- the names of the kinds, as the def lists them -/
abbrev kn1 : List Str := ["NoNet", "NoText", "Stuck"]
abbrev kn2 : List Str := ["Unlike", "Stopped"]
abbrev kn3 : List Str := ["NoStore", "NoPart"]
abbrev kn4 : List Str := ["TooMany", "TooLong"]
abbrev kn5 : List Str := ["NoCoins", "NoWork"]
abbrev kn6 : List Str := ["NothingDone", "NothingUndone"]
abbrev kn7 : List Str := ["NoLine", "NoName"]
abbrev knAll : List Str := ["NoNet", "NoText", "Stuck", "Unlike", "Stopped", "NoStore", "NoPart", "TooMany", "TooLong", "NoCoins", "NoWork", "NothingDone", "NothingUndone", "NoLine", "NoName"]
theorem join_one {sep c : Str} : Txt.join sep [c] = c := by
  first
  | rfl
  | (unfold Txt.join; rfl)
theorem kn_one {c : Str} (h : c ∈ knAll) : yesOf (((((((kn1.map fun n => (n, c == n)) ++ (kn2.map fun n => (n, c == n))) ++ (kn3.map fun n => (n, c == n))) ++ (kn4.map fun n => (n, c == n))) ++ (kn5.map fun n => (n, c == n))) ++ (kn6.map fun n => (n, c == n))) ++ (kn7.map fun n => (n, c == n))) = [c] := by
  simp only [knAll, List.mem_cons, List.not_mem_nil, or_false] at h
  rcases h with rfl | rfl | rfl | rfl | rfl | rfl | rfl | rfl | rfl | rfl | rfl | rfl | rfl | rfl | rfl <;> decide
end DV
set_option maxHeartbeats 2000000
namespace DV
open PySem PySem.Spec L2 L2H
/-! ### what the top has written of the kinds -/
def Kind (K : PySem.W.Frag) (mg : Str → Option Value) (n : Str) (tbl : List (Str × Bool)) : Prop := ∃ D, mg n = some (.ref D) ∧ IsTbl K mg (.ref D) tbl
structure HasKinds (K : PySem.W.Frag) (mg : Str → Option Value) (tbl : List Str) : Prop where
  ring : Kind K mg "RingError" (yesTbl tbl)
  val : IsTbl K mg (.type "ValueError") (yesTbl tbl)
  kinds : ∀ n ∈ knAll, Kind K mg n (nmTbl tbl n)
section
variable {K : PySem.W.Frag} {mg : Str → Option Value} {h : Heap} {c n : Str} {C D : Addr} {tbl : List (Str × Bool)} {cs ns : List Str} {b : Bool}
theorem self_of (X : K.In h) (G : h.Ns mainGlobals mg) (ac : PySem.W.nsIn K mainGlobals c = some (some (.ref C))) (s1 : PySem.W.hasDictIn K C = true) (s2 : PySem.W.findIn K (.ref C) "__getattribute__" = some (some (.builtin "BaseException.__getattribute__")))
    (s3 : PySem.W.findIn K (.ref C) "__getattr__" = some none) (s4 : PySem.W.subIn K (.ref C) (.type "BaseException") = some true) (s5 : PySem.W.findIn K (.ref C) "__class__" = some (some (.builtin "object.__class__")))
    (s6 : PySem.W.specialIn K (.builtin "object.__class__") "__get__" = some (some (.builtin "getset_descriptor.__get__"))) (s7 : PySem.W.takesIn K (.builtin "object.__class__") = some true) (s8 : PySem.W.mroIn K C (.type "object") = some true) : mg c = some (.ref C) ∧ SelfC K C := by
  obtain ⟨cd, hc, _⟩ := PySem.W.any_some s1
  exact ⟨PySem.W.mg_of X G ac, ⟨by rw [hc]; rfl, s2, s3, s4, s5, s6, s7, s8⟩⟩
theorem dcl_of (X : K.In h) (G : h.Ns mainGlobals mg) (ac : PySem.W.nsIn K mainGlobals n = some (some (.ref D))) (s1 : PySem.W.hasDictIn K D = true) (s2 : PySem.W.typeIn K (.ref D) = some (.type "type")) : mg n = some (.ref D) ∧ PySem.W.hasDictIn K D = true ∧ PySem.W.typeIn K (.ref D) = some (.type "type") :=
  ⟨PySem.W.mg_of X G ac, s1, s2⟩
theorem is_nil {cv : Value} : IsTbl K mg cv [] := fun c b h => by cases h
theorem is_add {cv : Value} (S : mg c = some (.ref C) ∧ SelfC K C) (e : PySem.W.kitOne K (.ref C) cv = some b) (r : IsTbl K mg cv tbl) : IsTbl K mg cv ((c, b) :: tbl) := fun y b' hy => by
  rw [List.lookup_cons] at hy
  cases z : (y == c) with
  | true =>
    rw [z] at hy
    simp only at hy
    cases hy
    rw [eq_of_beq z]
    exact ⟨C, S.1, S.2, e⟩
  | false =>
    rw [z] at hy
    exact r y b' hy
theorem is_cons (S : mg c = some (.ref C) ∧ SelfC K C) (T : mg n = some (.ref D) ∧ PySem.W.hasDictIn K D = true ∧ PySem.W.typeIn K (.ref D) = some (.type "type")) (e : PySem.W.subIn K (.ref C) (.ref D) = some b) (hne : (b || !(decide (C = D))) = true) (r : IsTbl K mg (.ref D) tbl) : IsTbl K mg (.ref D) ((c, b) :: tbl) :=
  is_add S (by
    unfold PySem.W.kitOne
    by_cases q : (Value.ref C == Value.ref D) = true
    · rw [if_pos q]
      have e1 : C = D := Value.ref.inj (beq_iff_eq.mp q)
      rw [decide_eq_true e1] at hne
      cases b with
      | true => rfl
      | false => cases hne
    · rw [if_neg q]
      obtain ⟨cd, hc, _⟩ := PySem.W.any_some T.2.1
      show (if ((PySem.W.clsIn K D).isSome && PySem.W.typeIn K (.ref D) == some (.type "type")) = true then PySem.W.subIn K (.ref C) (.ref D) else none) = some b
      rw [if_pos (by rw [hc, T.2.2]; rfl)]
      exact e) r
theorem is_val (S : mg c = some (.ref C) ∧ SelfC K C) (e : PySem.W.subIn K (.ref C) (.type "ValueError") = some true) (r : IsTbl K mg (.type "ValueError") tbl) : IsTbl K mg (.type "ValueError") ((c, true) :: tbl) :=
  is_add S (by
    unfold PySem.W.kitOne
    rw [if_neg (by intro q; cases (beq_iff_eq.mp q))]
    show (if PySem.W.kitMeta "ValueError" = true then PySem.W.subIn K (.ref C) (.type "ValueError") else none) = some true
    rw [if_pos (by decide +kernel)]
    exact e) r
theorem kind_of (T : mg n = some (.ref D) ∧ PySem.W.hasDictIn K D = true ∧ PySem.W.typeIn K (.ref D) = some (.type "type")) (r : IsTbl K mg (.ref D) tbl) : Kind K mg n tbl := ⟨D, T.1, r⟩
theorem kinds_nil : ∀ n ∈ ([] : List Str), Kind K mg n (nmTbl cs n) := fun n h => by cases h
theorem kinds_cons (h1 : Kind K mg n tbl) (e : tbl = nmTbl cs n) (r : ∀ n ∈ ns, Kind K mg n (nmTbl cs n)) : ∀ m ∈ n :: ns, Kind K mg m (nmTbl cs m) := fun m hm => by
  rcases List.mem_cons.mp hm with z | z
  · rw [z, ← e]; exact h1
  · exact r m z
end
section
variable {Y : Cx} {a : Addr} {oe : Obj} {cls : Value} {d : Option Addr} {tbl : List Str} {n ev : Str} {p p1 p2 pos : Pos} {k : Nat} {j : Nat} {p3 p4 : Pos}
theorem vy_kindG {l : List (Str × Bool)} (E : ErrCx Y a oe cls d) (HK : Kind Y.K Y.mg n l) (he : PE Y (.Name ev p1) (tVar 0)) (hgn : Gl Y n) (hdb : (n == ("__debug__" : Str)) = false) (hg : Gl Y "isinstance") (hm : Y.mg "isinstance" = none) :
    PE Y (.Call (.Name "isinstance" p) [.Name ev p1, .Name n p2] [] pos) (tVx (mc Y) (some 0) a cls d (fIs l)) := by
  obtain ⟨D, m, T⟩ := HK
  exact vy_isi E T he (pe_glob (v := .ref D) hgn m rfl hdb) (fun u h => h) hg hm
theorem vy_kind (E : ErrCx Y a oe cls d) (HK : HasKinds Y.K Y.mg tbl) (hm : Y.mg "isinstance" = none) (he : PE Y (.Name ev p1) (tVar 0)) (hn : n ∈ knAll := by decide) (hgn : Gl Y n := by rfl) (hdb : (n == ("__debug__" : Str)) = false := by decide) (hg : Gl Y "isinstance" := by rfl) :
    PE Y (.Call (.Name "isinstance" p) [.Name ev p1, .Name n p2] [] pos) (tVx (mc Y) (some 0) a cls d (fIs (nmTbl tbl n))) := vy_kindG E (HK.kinds n hn) he hgn hdb hg hm
theorem vy_ring (E : ErrCx Y a oe cls d) (HK : HasKinds Y.K Y.mg tbl) (hm : Y.mg "isinstance" = none) (he : PE Y (.Name ev p1) (tVar 0)) (hgn : Gl Y "RingError" := by rfl) (hg : Gl Y "isinstance" := by rfl) :
    PE Y (.Call (.Name "isinstance" p) [.Name ev p1, .Name "RingError" p2] [] pos) (tVx (mc Y) (some 0) a cls d (fIs (yesTbl tbl))) := vy_kindG E HK.ring he hgn (by decide) hg hm
theorem vy_val (E : ErrCx Y a oe cls d) (HK : HasKinds Y.K Y.mg tbl) (hm : Y.mg "isinstance" = none) (hv : Y.mg "ValueError" = none) (he : PE Y (.Name ev p1) (tVar 0)) (hgn : Gl Y "ValueError" := by rfl) (hg : Gl Y "isinstance" := by rfl) :
    PE Y (.Call (.Name "isinstance" p) [.Name ev p1, .Name "ValueError" p2] [] pos) (tVx (mc Y) (some 0) a cls d (fIs (yesTbl tbl))) :=
  vy_isi E HK.val he (pe_bltn (v := .ty "ValueError") hgn hv (u := .type "ValueError") rfl rfl) (fun u h => h) hg hm
theorem vy_pair (E : ErrCx Y a oe cls d) (HK : HasKinds Y.K Y.mg tbl) (hm : Y.mg "isinstance" = none) (he : PE Y (.Name ev p1) (tVar 0)) (hn : n ∈ knAll := by decide) (hgn : Gl Y n := by rfl) (hdb : (n == ("__debug__" : Str)) = false := by decide) (hg : Gl Y "isinstance" := by rfl) :
    PE Y (.Tuple [.Constant (.str n) j p3, .Call (.Name "isinstance" p) [.Name ev p1, .Name n p2] [] pos] k p4) (tVx (mc Y) (some 0) a cls d (fPair tbl n)) :=
  vy_tup (vy_cons vy_str (vy_cons (vy_kind E HK hm he hn hgn hdb hg) vy_nil))
end
end DV
set_option maxHeartbeats 2000000
namespace DV
open PySem PySem.Spec L2 L2H
/-! ### the def that tells an error's class, whole -/
section
variable {P : Program} {w : World} {K : PySem.W.Frag} {mg : Str → Option Value} {base : Heap}
theorem sort_ok {x qual ev : Str} {st : Stmt} {f : Addr} {fd : FuncData} {N : List Str} {k : Nat} {tbl : List Str} (F : Fun K x qual st f fd) (S : FnScope N [ev] (defScope st)) (hN : N.length = 4) (hm : mg x = some (.ref f)) (hb : Binds K fd [ev] []) (htbl : ∀ c ∈ tbl, c ∈ knAll)
    (hbody : ∀ (Y : Cx) (cdv : Value) (A : Around) (outer : List Env) (s : Shared) (H : Hp) (E : XK) (p : Addr × Obj), Y = cxH (L2N.CX P w) P w K mg base N qual (defScope st) f cdv A outer s H E p → ∀ (oe : Obj) (a : Addr) (cls : Value) (d : Option Addr), ErrCx Y a oe cls d →
      ∃ s0 s1 s2 s3 s4 s5 s6 s7 s8, defBody st = [s0, s1, s2, s3, s4, s5, s6, s7, s8] ∧ PS Y s0 (tKGuard ⟨K, mg, P, w⟩ a cls d tbl) ∧ PS Y s1 (tKMake ⟨K, mg, P, w⟩ a cls d (fPairs tbl kn1)) ∧ PS Y s2 (tKMore ⟨K, mg, P, w⟩ a cls d (fPairs tbl kn2)) ∧ PS Y s3 (tKMore ⟨K, mg, P, w⟩ a cls d (fPairs tbl kn3)) ∧
        PS Y s4 (tKMore ⟨K, mg, P, w⟩ a cls d (fPairs tbl kn4)) ∧ PS Y s5 (tKMore ⟨K, mg, P, w⟩ a cls d (fPairs tbl kn5)) ∧ PS Y s6 (tKMore ⟨K, mg, P, w⟩ a cls d (fPairs tbl kn6)) ∧ PS Y s7 (tKMore ⟨K, mg, P, w⟩ a cls d (fPairs tbl kn7)) ∧ PS Y s8 (tKJoin ⟨K, mg, P, w⟩ a cls d " ")) :
    SortOk P w K mg base (k + 1) x [ev] tbl := by
  refine ⟨f, fd, hm, F.kp, hb, okZ F S (fun p vs H Q E h => by rw [h.1]; rfl) fun cdv A outer s H vs Q E p hot hr ⟨e, cls, d, y, Z, hz, hf, hc, hx, q⟩ => ?_⟩
  have EC : ErrCx (cxH (L2N.CX P w) P w K mg base N qual (defScope st) f cdv A outer s H E p) p.1 p.2 cls d := ⟨List.mem_cons_self, hz, hf, hot.1⟩
  obtain ⟨s0, s1, s2, s3, s4, s5, s6, s7, s8, eb, r0, r1, r2, r3, r4, r5, r6, r7, r8⟩ := hbody _ cdv A outer s H E p rfl p.2 p.1 cls d EC
  rw [eb]
  refine ⟨_, pss_cons r0 (pss_cons r1 (pss_cons r2 (pss_cons r3 (pss_cons r4 (pss_cons r5 (pss_cons r6 (pss_cons r7 (pss_one r8)))))))), ?_⟩
  subst e
  generalize hσ : L2.start N [V.ref p.1] = σ
  have l4 : σ.length = 4 := by
    rw [← hσ]
    unfold L2.start
    simp [hN]
  have h0 : σ[0]? = some (some (V.ref p.1)) := by rw [← hσ]; rfl
  have hx0 : XAt ⟨K, mg, P, w⟩ (some 0) p.1 cls d σ Z H y := ⟨hx.1, fun i hi => by cases hi; exact h0, hx.2.2⟩
  refine ⟨y, Z, hc, hx0, fun Z1 H1 g1 => ?_⟩
  refine ⟨y, _, Z1, fPairs_eq hc kn1, by simp, hx0.grow g1, by omega, fun σ2 Z2 H2 k2 l2 g2 => ?_⟩
  refine ⟨y, _, _, Z2, fPairs_eq hc kn2, by simp, by simp, k2, fun σ3 Z3 H3 k3 l3 g3 => ?_⟩
  refine ⟨y, _, _, Z3, fPairs_eq hc kn3, by simp, by simp, k3, fun σ4 Z4 H4 k4 l4' g4 => ?_⟩
  refine ⟨y, _, _, Z4, fPairs_eq hc kn4, by simp, by simp, k4, fun σ5 Z5 H5 k5 l5 g5 => ?_⟩
  refine ⟨y, _, _, Z5, fPairs_eq hc kn5, by simp, by simp, k5, fun σ6 Z6 H6 k6 l6 g6 => ?_⟩
  refine ⟨y, _, _, Z6, fPairs_eq hc kn6, by simp, by simp, k6, fun σ7 Z7 H7 k7 l7 g7 => ?_⟩
  refine ⟨y, _, _, Z7, fPairs_eq hc kn7, by simp, by simp, k7, fun σ8 Z8 H8 k8 l8 g8 => ?_⟩
  have e8 := kn_one (htbl _ hc)
  rw [← List.map_append, ← List.map_append, ← List.map_append, ← List.map_append, ← List.map_append, ← List.map_append] at k8
  refine ⟨y, _, Z8, k8, by omega, by simp, ?_, fun Z' H' g => ?_⟩
  · rw [e8]
    have : ∀ c ∈ knAll, c.length ≤ 100 := by decide
    have := this _ (htbl _ hc)
    have e1 : (" " : Str).length = 1 := by rfl
    rw [e1]
    simp
    omega
  · rw [e8, join_one]
    exact q Z' H' ((((((((g1.trans g2).trans g3).trans g4).trans g5).trans g6).trans g7).trans g8).trans g)
end
end DV
namespace DV
open PySem PySem.Spec L2
/-! ### x[a], x[b] = e, a tuple: a and b names -/
def kPair3 (j : Nat) (e : Ev) (d1 d2 : D) (xs : List D) (n1 n2 : Nat) : Out Fl := .ok .nx (putAt e j ((xs.set n1 d1).set n2 d2))
def kPair2 (j ka kb : Nat) (p : D × Ev) : Out Fl := match p.1 with
  | .tup [d1, d2] => match p.2[ka]?, p.2[kb]?, mutAt p.2 j with
    | some (.val (.int i1)), some (.val (.int i2)), some xs => match ixN xs.length i1, ixN xs.length i2 with
      | some n1, some n2 => kPair3 j p.2 d1 d2 xs n1 n2
      | _, _ => .bad
    | _, _, _ => .bad
  | _ => .bad
def kPair1 (j ka kb : Nat) (r : R) (e : Ev) : Out Fl := opt (r.esc e) (kPair2 j ka kb)
def sPairIx (j ka kb : Nat) (s : SE) : SS := fun env => (s env).bind (kPair1 j ka kb)
@[simp] theorem sPairIx_eq {j ka kb : Nat} {s : SE} {e : Ev} : sPairIx j ka kb s e = (s e).bind (kPair1 j ka kb) := Eq.trans rfl rfl
@[simp] theorem kPair1_eq {j ka kb : Nat} {r : R} {e : Ev} : kPair1 j ka kb r e = opt (r.esc e) (kPair2 j ka kb) := Eq.trans rfl rfl
section
variable {X : Cx} {W : WX} {pos npos npos2 tpos tpos2 apos bpos tup : Pos} {k : Nat} {x ya yb : Str} {e : Expr} {s : SE}
end
end DV
set_option maxHeartbeats 2000000
namespace DV
open PySem PySem.Spec PyProof.Rows L2
/-! ### x[:] = a list -/
section
variable {prog : Program} {w : World} {A : Around} {E : Value → Shared → Prop} {s : Shared}
end
section
variable {X : Cx}
end
end DV
namespace DV
open PySem PySem.Spec L2
/-! ### x[:] = e, e a new list -/
def kAll2 (j : Nat) (e : Ev) (ys : List D) (xs : List D) : Out Fl := if xs.length + ys.length ≤ LIM then .ok .nx (putAt e j ys) else .bad
def kAll1 (j : Nat) (r : R) (e : Ev) : Out Fl := match r with
  | .new ys => opt (mutAt e j) (kAll2 j e ys)
  | _ => .bad
def sSetAll (j : Nat) (s : SE) : SS := fun env => (s env).bind (kAll1 j)
@[simp] theorem sSetAll_eq {j : Nat} {s : SE} {e : Ev} : sSetAll j s e = (s e).bind (kAll1 j) := Eq.trans rfl rfl
@[simp] theorem kAll1_new {j : Nat} {ys : List D} {e : Ev} : kAll1 j (.new ys) e = opt (mutAt e j) (kAll2 j e ys) := Eq.trans rfl rfl
section
variable {X : Cx} {W : WX} {pos npos tpos p2 : Pos} {x : Str} {e : Expr} {s : SE}
end
end DV
namespace DV
open PySem PySem.Spec L2
/-! ### isinstance(x, (tuple, list)) -/
def kIsiTL (e : Ev) (d : D) : Out R := match isiD "tuple" d, isiD "list" d with
  | some b1, some b2 => .ok (.val (.bl (b1 || b2))) e
  | _, _ => .bad
def kIsiTL0 (r : R) (e : Ev) : Out R := opt (r.read e) (kIsiTL e)
def vIsiTL (s : SE) : SE := fun env => (s env).bind kIsiTL0
@[simp] theorem vIsiTL_eq {s : SE} {e : Ev} : vIsiTL s e = (s e).bind kIsiTL0 := Eq.trans rfl rfl
@[simp] theorem kIsiTL0_eq {r : R} {e : Ev} : kIsiTL0 r e = opt (r.read e) (kIsiTL e) := Eq.trans rfl rfl
@[simp] theorem kIsiTL_tup {xs : List D} {e : Ev} : kIsiTL e (.tup xs) = .ok (.val (.bl true)) e := Eq.trans rfl rfl
@[simp] theorem kIsiTL_lst {xs : List D} {e : Ev} : kIsiTL e (.lst xs) = .ok (.val (.bl true)) e := Eq.trans rfl rfl
@[simp] theorem kIsiTL_int {x : Int} {e : Ev} : kIsiTL e (.int x) = .ok (.val (.bl false)) e := Eq.trans rfl rfl
@[simp] theorem kIsiTL_bl {x : Bool} {e : Ev} : kIsiTL e (.bl x) = .ok (.val (.bl false)) e := Eq.trans rfl rfl
@[simp] theorem kIsiTL_str {x : Str} {e : Ev} : kIsiTL e (.str x) = .ok (.val (.bl false)) e := Eq.trans rfl rfl
@[simp] theorem kIsiTL_non {e : Ev} : kIsiTL e .non = .ok (.val (.bl false)) e := Eq.trans rfl rfl
section
variable {X : Cx} {W : WX}
theorem de_isiTL {x : Expr} {s : SE} {p p2 p3 pos tpos : Pos} {k : Nat} (hm : X.mg "isinstance" = none) (hm2 : X.mg "tuple" = none) (hm3 : X.mg "list" = none) (he : DE W X x s)
    (hg : Gl X "isinstance" := by rfl) (hg2 : Gl X "tuple" := by rfl) (hg3 : Gl X "list" := by rfl)
    (he1 : starEach [x, .Tuple [.Name "tuple" p2, .Name "list" p3] k tpos] X.env = (false, eval x X.env) :: starEach [.Tuple [.Name "tuple" p2, .Name "list" p3] k tpos] X.env := by rfl)
    (he2 : starEach [.Tuple [.Name "tuple" p2, .Name "list" p3] k tpos] X.env = (false, eval (.Tuple [.Name "tuple" p2, .Name "list" p3] k tpos) X.env) :: starEach [] X.env := by rfl)
    (hpl : (backTo pos (starEach [.Tuple [.Name "tuple" p2, .Name "list" p3] k tpos] X.env)).any (·.1) = false := by rfl)
    (he3 : starEach [.Name "tuple" p2, .Name "list" p3] X.env = (false, eval (.Name "tuple" p2) X.env) :: starEach [.Name "list" p3] X.env := by rfl) (he4 : starEach [.Name "list" p3] X.env = (false, eval (.Name "list" p3) X.env) :: starEach [] X.env := by rfl) :
    DE W X (.Call (.Name "isinstance" p) [x, .Tuple [.Name "tuple" p2, .Name "list" p3] k tpos] [] pos) (vIsiTL s) := by
  have b1 : bootBuiltins "tuple" = some (.type "tuple") := by decide +kernel
  have b2 : bootBuiltins "list" = some (.type "list") := by decide +kernel
  have b3 : bootBuiltins "isinstance" = some (.builtin "isinstance") := by decide +kernel
  refine weakE (pe_callB call_isiT hg hm b3 (pa_cons he (pa_cons (pe_tup (pa_cons (pe_bltn (v := V.ty "tuple") (u := .type "tuple") hg2 hm2 b1 rfl) (pa_cons (pe_bltn (v := V.ty "list") (u := .type "list") hg3 hm3 b2 rfl) pa_nil he4) he3)) pa_nil he2) he1) (by decide) (by decide) he1 hpl) fun σ H Q ⟨Z, env, rep, h⟩ => ?_
  have h : Post (mc X) W Z H env σ ((s env).bind kIsiTL0) _ := h
  refine ⟨Z, env, rep, h.bind.mono fun r e Z1 H1 x1 p v rr => ?_⟩
  unfold kIsiTL0 at p
  cases q : r.read e with
  | none => rw [q] at p; exact p.elim
  | some d =>
    rw [q] at p
    have p : Post (mc X) W Z1 H1 e σ (kIsiTL e d) _ := p
    unfold kIsiTL at p
    split at p
    · rename_i c1 c2 q1 q2
      refine ⟨by decide, fun t ht => ?_⟩
      have no : ∀ c ks ds, d ≠ .obj c ks ds := fun c ks ds z => by subst z; cases q1
      have nr : ∀ n, d ≠ .ref n ∧ ∀ c ks ds, d ≠ .exc c ks ds := fun n => ⟨fun z => (by subst z; cases q1), fun c ks ds z => (by subst z; cases q1)⟩
      have nw := rr.now x1.rep q
      have g := Grow.own (o := .tup [.ty "tuple", .ty "list"]) x1.rep.sub ht
      have nw2 : Now (mc X) Z1 (upd H1 t (.tup [.ty "tuple", .ty "list"])) v d := by
        rcases nw with z | ⟨a, vs, xs, e1, e2, e3, e4⟩
        · exact .inl z
        · exact .inr ⟨a, vs, xs, e1, e2, by rw [upd_ne (fun z => by rw [z, ht] at e3; cases e3)]; exact e3, e4⟩
      refine ⟨v, t, [.ty "tuple", .ty "list"], .type (tyName d), [.type "tuple", .type "list"], c1 || c2, rfl, upd_same, .cons (.ty _) (.cons (.ty _) .nil), nw2.tyX g.sub' no nr (fun _ _ _ _ _ _ => trivial), ?_, ?_⟩
      · have k1 := kit_ty (K := X.K) (kit_tuple d c1 q1)
        have k2 := kit_ty (K := X.K) (kit_list d c2 q2)
        unfold PySem.W.kitAny
        rw [k1]
        cases c1 with
        | true => rfl
        | false =>
          simp only
          unfold PySem.W.kitAny
          rw [k2]
          cases c2 <;> rfl
      · exact (Post.okG p x1.rep g) _ (.bl _)
    · exact p.elim
end
end DV
namespace DV
open PySem PySem.Spec L2
/-! ### data that the law's own likeness (just) goes through -/
def D.jd : Nat → D → Bool
  | _ + 1, .non => true
  | _ + 1, .bl _ => true
  | _ + 1, .int _ => true
  | _ + 1, .str x => D.shp 1 (.str x)
  | n + 1, .tup xs => decide (xs.length ≤ 100000) && xs.all (D.jd n)
  | n + 1, .lst xs => decide (xs.length ≤ 100000) && xs.all (D.jd n)
  | _, _ => false
@[simp] theorem jd_non {n : Nat} : D.jd (n + 1) .non = true := rfl
@[simp] theorem jd_bl {n : Nat} {b : Bool} : D.jd (n + 1) (.bl b) = true := rfl
@[simp] theorem jd_int {n : Nat} {i : Int} : D.jd (n + 1) (.int i) = true := rfl
@[simp] theorem jd_str {n : Nat} {x : Str} : D.jd (n + 1) (.str x) = D.shp 1 (.str x) := rfl
@[simp] theorem jd_tup {n : Nat} {xs : List D} : D.jd (n + 1) (.tup xs) = (decide (xs.length ≤ 100000) && xs.all (D.jd n)) := rfl
@[simp] theorem jd_lst {n : Nat} {xs : List D} : D.jd (n + 1) (.lst xs) = (decide (xs.length ≤ 100000) && xs.all (D.jd n)) := rfl
/-! ### numbers in another order -/
end DV
namespace DV
open PySem PySem.Spec L2
/-! ### list(range(a, b)) -/
section
variable {X : Cx} {W : WX}
end
/-! ### tuple(range(n)) -/
section
open PyProof.Rows
variable {X : Cx} {W : WX}
end
/-! ### x[a], x[b] = e, a tuple: a and b any numbers -/
def kPE4 (j : Nat) (d2 : D) (rb : R) (e5 : Ev) : Out Fl := match rb.read e5, mutAt e5 j with
  | some (.int i2), some ys => match ixN ys.length i2 with
    | some n2 => .ok .nx (putAt e5 j (ys.set n2 d2))
    | none => .bad
  | _, _ => .bad
def kPE3 (j : Nat) (sb : SE) (d1 d2 : D) (ra : R) (e3 : Ev) : Out Fl := match ra.read e3, mutAt e3 j with
  | some (.int i1), some xs => match ixN xs.length i1 with
    | some n1 => (sb (putAt e3 j (xs.set n1 d1))).bind (kPE4 j d2)
    | none => .bad
  | _, _ => .bad
def kPE2 (j : Nat) (sa sb : SE) (p : D × Ev) : Out Fl := match p.1, mutAt p.2 j with
  | .tup [d1, d2], some _ => (sa p.2).bind (kPE3 j sb d1 d2)
  | _, _ => .bad
def kPE1 (j : Nat) (sa sb : SE) (r : R) (e : Ev) : Out Fl := opt (r.esc e) (kPE2 j sa sb)
def sPairE (j : Nat) (sa sb s : SE) : SS := fun env => (s env).bind (kPE1 j sa sb)
@[simp] theorem sPairE_eq {j : Nat} {sa sb s : SE} {e : Ev} : sPairE j sa sb s e = (s e).bind (kPE1 j sa sb) := Eq.trans rfl rfl
@[simp] theorem kPE1_eq {j : Nat} {sa sb : SE} {r : R} {e : Ev} : kPE1 j sa sb r e = opt (r.esc e) (kPE2 j sa sb) := Eq.trans rfl rfl
section
variable {X : Cx} {W : WX} {pos npos npos2 tpos tpos2 tup : Pos} {k : Nat} {x : Str} {e ia ib : Expr} {s sa sb : SE}
end
end DV
namespace DV
open PySem PySem.Spec L2 PyProof.Rows
/-! ### dicts whose keys are tuples that know that they have no dict -/
/-! what stands at a key, in any lists -/
section
variable {κ α : Type} [DecidableEq κ]
def valG : List κ → List α → κ → Option α
  | k0 :: ks, x :: xs, k => if k0 = k then some x else valG ks xs k
  | _, _, _ => none
end
section
variable {X : Cx} {pins : List (Addr × Obj)} {σ : L2.St} {H : Hp} {s : Shared} {a b : Addr} {ks : List (List L2.Key)} {vs : List V} {k : List L2.Key} {A : Around} {E : Value → Shared → Prop} {v : V} {r : Value}
end
/-! the rules -/
section
variable {X : Cx} {o i e value : Expr} {pos pos' : Pos} {td ty tv : TE}
end
end DV
namespace DV
open PySem PySem.Spec L2
/-! ### a dict of one's own whose keys are tuples -/
def keyT : D → Option (List L2.Key)
  | .tup ds => allOf keyD ds
  | _ => none
def ditS : Option Sl → Option (List (List L2.Key) × List D)
  | some (.dit ks xs) => some (ks, xs)
  | _ => none
def ditAt (e : Ev) (j : Nat) : Option (List (List L2.Key) × List D) := ditS e[j]?
theorem ditAt_some {e : Ev} {j : Nat} {p : List (List L2.Key) × List D} (h : ditAt e j = some p) : e[j]? = some (.dit p.1 p.2) := by
  unfold ditAt ditS at h
  split at h
  · rename_i ks xs q
    cases h
    exact q
  · cases h
theorem rps_split {M : MC} {Z : Hp} : ∀ {es xs : List D} {vs : List V}, Rps M Z vs (es ++ xs) → Rps M Z (vs.take es.length) es ∧ Rps M Z (vs.drop es.length) xs
  | [], _, _, r => ⟨.nil, r⟩
  | e :: es, xs, _, .cons r t => ⟨.cons r (rps_split t).1, (rps_split t).2⟩
section
variable {M : MC} {W : WX} {Z H Z' H' Z1 H1 Z2 H2 H0 : Hp} {env env' env1 env2 : Ev} {σ σ' σ1 σ2 : SV} {a : Addr} {v : V} {d : D}
structure DitIs (M : MC) (Z H : Hp) (σ : SV) (j : Nat) (p : List (List L2.Key) × List D) (a : Addr) (vs : List V) : Prop where
  at_ : σ[j]? = some (some (.ref a))
  obj : H a = some (dicTO M a p.1 vs)
  no : Z a = none
  all : Rps M Z vs (p.1.map keyTD ++ p.2)
  keys : Rps M Z (vs.take p.1.length) (p.1.map keyTD)
  vals : Rps M Z (vs.drop p.1.length) p.2
theorem Rep.dit (r : Rep M Z H env σ) {j : Nat} {p : List (List L2.Key) × List D} (h : ditAt env j = some p) : ∃ (a : Addr) (vs : List V), DitIs M Z H σ j p a vs := by
  obtain ⟨a, vs, h1, h2, h3, h4⟩ := r.lst j _ (p.1.map keyTD ++ p.2) (ditAt_some h) rfl
  have q := rps_split h4
  rw [List.length_map] at q
  exact ⟨a, vs, h1, h2, h3, h4, q.1, q.2⟩
def putKG (ks : List (List L2.Key)) (xs : List D) (k : List L2.Key) : List (List L2.Key) := if (valG ks xs k).isSome = true then ks else ks ++ [k]
def putXG (ks : List (List L2.Key)) (xs : List D) (k : List L2.Key) (d : D) : List D := if (valG ks xs k).isSome = true then List.zipWith (fun k0 x => if k0 = k then d else x) ks xs else xs ++ [d]
/-- what stands at a key -/
def tGetD (j : Nat) (e : Ev) (d : D) : Option D := match keyT d, ditAt e j with
  | some k, some p => valG p.1 p.2 k
  | _, _ => none
def kTGet2 (j : Nat) (e : Ev) (d : D) : Out R := opt (tGetD j e d) (kDGet3 e)
def kTGet (j : Nat) (r : R) (e : Ev) : Out R := opt (r.read e) (kTGet2 j e)
def vTGet (j : Nat) (si : SE) : SE := fun env => if (ditAt env j).isSome = true then (si env).bind (kTGet j) else .bad
def tIn (neg : Bool) (j : Nat) (e : Ev) (d : D) : Option D := match keyT d, ditAt e j with
  | some k, some p => some (.bl (if neg then !(valG p.1 p.2 k).isSome else (valG p.1 p.2 k).isSome))
  | _, _ => none
def kTIn2 (neg : Bool) (j : Nat) (e : Ev) (d : D) : Out R := opt (tIn neg j e d) (kDGet3 e)
def kTIn (neg : Bool) (j : Nat) (r : R) (e : Ev) : Out R := opt (r.read e) (kTIn2 neg j e)
def vTIn (neg : Bool) (j : Nat) (si : SE) : SE := fun env => (si env).bind (kTIn neg j)
end
section
variable {X : Cx} {W : WX}
/-- d[k] = v -/
def tPutD (j : Nat) (e : Ev) (d key : D) : Option Ev := match keyT key, ditAt e j with
  | some k, some p => if p.1.length < LIM then some (e.set j (.dit (putKG p.1 p.2 k) (putXG p.1 p.2 k d))) else none
  | _, _ => none
def kTPut4 (j : Nat) (d : D) (e : Ev) (key : D) : Out Fl := opt (tPutD j e d key) kDPut5
def kTPut3 (j : Nat) (d : D) (r : R) (e : Ev) : Out Fl := opt (r.read e) (kTPut4 j d e)
def kTPut2 (j : Nat) (si : SE) (p : D × Ev) : Out Fl := (si p.2).bind (kTPut3 j p.1)
def kTPut (j : Nat) (si : SE) (r : R) (e : Ev) : Out Fl := opt (r.esc e) (kTPut2 j si)
def sTPutD (j : Nat) (si s : SE) : SS := fun env => if (ditAt env j).isSome = true then (s env).bind (kTPut j si) else .bad
/-- name = {}, to be a dict with tuple keys -/
def sTNew (j : Nat) : SS := fun env => if freeAt env j = true then .ok .nx (env.set j (.dit [] [])) else .bad
end
/-! ### running -/
@[simp] theorem ditS_dit {ks : List (List L2.Key)} {xs : List D} : ditS (some (.dit ks xs)) = some (ks, xs) := Eq.trans rfl rfl
@[simp] theorem ditAt_eq {e : Ev} {j : Nat} : ditAt e j = ditS e[j]? := Eq.trans rfl rfl
@[simp] theorem kTGet2_eq {j : Nat} {e : Ev} {d : D} : kTGet2 j e d = opt (tGetD j e d) (kDGet3 e) := Eq.trans rfl rfl
@[simp] theorem kTGet_eq {j : Nat} {r : R} {e : Ev} : kTGet j r e = opt (r.read e) (kTGet2 j e) := Eq.trans rfl rfl
@[simp] theorem vTGet_eq {j : Nat} {si : SE} {e : Ev} : vTGet j si e = guardS (ditAt e j) ((si e).bind (kTGet j)) := by unfold vTGet; exact guardS_eq
@[simp] theorem kTIn2_eq {neg : Bool} {j : Nat} {e : Ev} {d : D} : kTIn2 neg j e d = opt (tIn neg j e d) (kDGet3 e) := Eq.trans rfl rfl
@[simp] theorem kTIn_eq {neg : Bool} {j : Nat} {r : R} {e : Ev} : kTIn neg j r e = opt (r.read e) (kTIn2 neg j e) := Eq.trans rfl rfl
@[simp] theorem vTIn_eq {neg : Bool} {j : Nat} {si : SE} {e : Ev} : vTIn neg j si e = (si e).bind (kTIn neg j) := Eq.trans rfl rfl
@[simp] theorem sTNew_eq {j : Nat} {e : Ev} : sTNew j e = putIf (e.set j (.dit [] [])) (freeAt e j) := by
  unfold sTNew putIf
  rfl
@[simp] theorem kTPut4_eq {j : Nat} {d : D} {e : Ev} {key : D} : kTPut4 j d e key = opt (tPutD j e d key) kDPut5 := Eq.trans rfl rfl
@[simp] theorem kTPut3_eq {j : Nat} {d : D} {r : R} {e : Ev} : kTPut3 j d r e = opt (r.read e) (kTPut4 j d e) := Eq.trans rfl rfl
@[simp] theorem kTPut2_eq {j : Nat} {si : SE} {p : D × Ev} : kTPut2 j si p = (si p.2).bind (kTPut3 j p.1) := Eq.trans rfl rfl
@[simp] theorem kTPut_eq {j : Nat} {si : SE} {r : R} {e : Ev} : kTPut j si r e = opt (r.esc e) (kTPut2 j si) := Eq.trans rfl rfl
@[simp] theorem sTPutD_eq {j : Nat} {si s : SE} {e : Ev} : sTPutD j si s e = guardS (ditAt e j) ((s e).bind (kTPut j si)) := by unfold sTPutD; exact guardS_eq
/-! ### a dict whose keys are tuples of numbers: ks the keys, f the values -/
def kNs (l : List Int) : List L2.Key := l.map kN
theorem keyT_nums {l : List Int} : keyT (.tup (nums l)) = some (kNs l) := by
  show allOf keyD (nums l) = some (kNs l)
  induction l with
  | nil => rfl
  | cons x l ih =>
    show allOf keyD (.int x :: nums l) = some (kN x :: kNs l)
    unfold allOf
    rw [ih]
    rfl
end DV
namespace DV
open PySem PySem.Spec L2
/-! ### turns one after another -/
section
variable {g : GT} {b : SS}
end
section
variable (many : Int) (ps : Prs) (cs : List Int)
/-- the coin row behind so many turns -/
def trR : Nat → List Int
  | 0 => cs
  | k + 1 => rowL (trR k) ps (alwL many ps (trR k))
def trs (n : Nat) : List (List Int) := (List.range n).map (trR many ps cs)
/-- the first turn whose row was there before -/
structure Back (j i : Nat) : Prop where
  lt : j < i
  eq : trR many ps cs i = trR many ps cs j
  fresh : (trs many ps cs i).Nodup
end
section
variable {many : Int} {ps : Prs} {cs : List Int}
end
end DV
namespace DV
open PySem PySem.Spec L2 PyProof.Rows
/-! ### {k: v}, one key that is a tuple -/
section
variable {X : Cx} {k v : Expr} {pos : Pos} {tk tv : TE}
end
section
variable {M : MC} {W : WX} {Z H : Hp} {env : Ev} {σ : SV}
def kTd3 (j : Nat) (key : D) (p : D × Ev) : Out Fl := match keyT key with
  | some k => if freeAt p.2 j = true then .ok .nx (p.2.set j (.dit [k] [p.1])) else .bad
  | none => .bad
def kTd2 (j : Nat) (key : D) (r : R) (e : Ev) : Out Fl := opt (r.esc e) (kTd3 j key)
def kTd1 (j : Nat) (s : SE) (r : R) (e : Ev) : Out Fl := match r with
  | .val key => (s e).bind (kTd2 j key)
  | _ => .bad
def sTDisp (j : Nat) (si s : SE) : SS := fun env => (si env).bind (kTd1 j s)
end
section
variable {X : Cx} {W : WX}
end
/-! ### running -/
theorem kTd3_key {j : Nat} {key : D} {k : List L2.Key} {p : D × Ev} (h : keyT key = some k) : kTd3 j key p = putIf (p.2.set j (.dit [k] [p.1])) (freeAt p.2 j) := by
  unfold kTd3 putIf
  rw [h]
@[simp] theorem kTd3_nums {j : Nat} {l : List Int} {p : D × Ev} : kTd3 j (.tup (nums l)) p = putIf (p.2.set j (.dit [kNs l] [p.1])) (freeAt p.2 j) := kTd3_key keyT_nums
@[simp] theorem kTd3_nil {j : Nat} {p : D × Ev} : kTd3 j (.tup []) p = putIf (p.2.set j (.dit [[]] [p.1])) (freeAt p.2 j) := kTd3_key rfl
@[simp] theorem kTd2_eq {j : Nat} {key : D} {r : R} {e : Ev} : kTd2 j key r e = opt (r.esc e) (kTd3 j key) := Eq.trans rfl rfl
@[simp] theorem kTd1_eq {j : Nat} {s : SE} {key : D} {e : Ev} : kTd1 j s (.val key) e = (s e).bind (kTd2 j key) := Eq.trans rfl rfl
@[simp] theorem sTDisp_eq {j : Nat} {si s : SE} {e : Ev} : sTDisp j si s e = (si e).bind (kTd1 j s) := Eq.trans rfl rfl
end DV
namespace DV
open PySem PySem.Spec L2
/-! ### papers: what a law hands over to be looked at -/
def D.pap : Nat → D → Bool
  | _ + 1, .non => true
  | _ + 1, .bl _ => true
  | _ + 1, .int _ => true
  | _ + 1, .str x => D.shp 1 (.str x)
  | n + 1, .tup xs => decide (xs.length ≤ 4000) && xs.all (D.pap n)
  | _, _ => false
@[simp] theorem pap_non {n : Nat} : D.pap (n + 1) .non = true := rfl
@[simp] theorem pap_bl {n : Nat} {b : Bool} : D.pap (n + 1) (.bl b) = true := rfl
@[simp] theorem pap_int {n : Nat} {i : Int} : D.pap (n + 1) (.int i) = true := rfl
/-! ### ways and rings of any row -/
end DV
namespace DV
open PySem PySem.Spec L2
/-! ### a or b, a tuple or None -/
def truD : D → Option Bool
  | .non => some false
  | .tup xs => some (!xs.isEmpty)
  | _ => none
def kOrV2 (t : SE) (d : D) (e : Ev) (b : Bool) : Out R := if b = true then .ok (.val d) e else t e
def kOrV (t : SE) (r : R) (e : Ev) : Out R := match r with
  | .val d => opt (truD d) (kOrV2 t d e)
  | _ => .bad
def vOrV (s t : SE) : SE := fun env => (s env).bind (kOrV t)
section
variable {X : Cx} {W : WX}
end
@[simp] theorem kOrV2_eq {t : SE} {d : D} {e : Ev} {b : Bool} : kOrV2 t d e b = if b = true then .ok (.val d) e else t e := Eq.trans rfl rfl
@[simp] theorem kOrV_eq {t : SE} {d : D} {e : Ev} : kOrV t (.val d) e = opt (truD d) (kOrV2 t d e) := Eq.trans rfl rfl
@[simp] theorem vOrV_eq {s t : SE} {e : Ev} : vOrV s t e = (s e).bind (kOrV t) := Eq.trans rfl rfl
@[simp] theorem truD_non : truD .non = some false := Eq.trans rfl rfl
@[simp] theorem truD_tup {xs : List D} : truD (.tup xs) = some (!xs.isEmpty) := Eq.trans rfl rfl
end DV
namespace DV
open PySem PySem.Calls PySem.Spec PyProof.Rows
/-! ### list(zip(a, b)): the tuple made last is still alive -/
abbrev IsZipF (h : Heap) (z TI TO a : Addr) (f : Bool) : Prop :=
  h.get? z = some { cls := .type "zip", dict := none, data := .fields #[rawInt a, .bool f, .bool false, .ref TI, .ref TO], slots := #[] }
section
variable {prog : Program} {w : World} {A : Around} {E : Value → Shared → Prop} {s : Shared} {z TI TO i1 i2 a : Addr} {f : Bool} {oa : Obj} {fp1 fp2 : List Addr} {n1 n2 i : Nat} {P1 P2 : Nat → Value → Prop} {St1 St2 : Nat → Heap → Prop}
def ZSt (h : Heap) (z TI TO i1 i2 L : Addr) (i : Nat) : Prop := (i = 0 ∧ IsZip h z TI TO .none ∧ ∃ a1 a2, IsTupOf2 h TO a1 a2) ∨
  ∃ a f oa, IsZipF h z TI TO a f ∧ h.get? a = some oa ∧ z < a ∧ i1 < a ∧ i2 < a ∧ L < a
theorem ZSt.keep {h h' : Heap} {L : Addr} (x : ZSt h z TI TO i1 i2 L i) (hk : ∀ b o, b ≠ L → h.get? b = some o → h'.get? b = some o) (hz : z ≠ L) (hO : TO ≠ L) : ZSt h' z TI TO i1 i2 L i := by
  rcases x with ⟨e, h1, a1, a2, h2⟩ | ⟨a, f, oa, h1, h2, l1, l2, l3, l4⟩
  · exact .inl ⟨e, hk _ _ hz h1, a1, a2, hk _ _ hO h2⟩
  · exact .inr ⟨a, f, oa, hk _ _ hz h1, hk _ _ (Nat.ne_of_gt l4) h2, l1, l2, l3, l4⟩
structure ZG (P1 P2 : Nat → Value → Prop) (lo : Addr) (h : Heap) (as : List Addr) : Prop where
  rise : as.Pairwise (· < ·)
  above : ∀ a ∈ as, lo < a
  pairs : ∀ (j : Nat) (a : Addr), as[j]? = some a → ∃ x y, P1 j x ∧ P2 j y ∧ IsTupOf2 h a x y
theorem ZG.there {lo : Addr} {h : Heap} {as : List Addr} (g : ZG P1 P2 lo h as) {a : Addr} (ha : a ∈ as) : a < h.objs.size := by
  obtain ⟨j, hj⟩ := List.mem_iff_getElem?.mp ha
  obtain ⟨_, _, _, _, e⟩ := g.pairs j a hj
  exact Heap.lt_size e
end
section
variable {prog : Program} {w : World} {A : Around} {s : Shared} {R : Result → Shared → Prop} {z TI TO i1 i2 L : Addr} {fp1 fp2 : List Addr} {n1 n2 n : Nat} {P1 P2 : Nat → Value → Prop} {St1 St2 : Nat → Heap → Prop}
end
end DV
namespace DV
open PySem PySem.Spec PyProof.Rows L2
end DV
namespace DV
open PySem PySem.Calls PySem.Spec PyProof.Rows
end DV
namespace DV
open PySem PySem.Spec PyProof.Rows L2
/-! ### x.index(y, start) -/
/-! ### x.remove(y), numbers -/
/-! ### range(a, b, -1) -/
def rngDn (lo : Int) (n : Nat) : List D := (List.range n).map fun i => .int (lo - (i : Nat))
def rng3 (ds : List D) : Option IT := match ds with
  | [.int i, .int j, .int c] => if c = -1 ∧ -BIG ≤ i ∧ i < BIG ∧ -BIG ≤ j ∧ j < BIG then some ⟨rngDn i (i - j).toNat, []⟩ else none
  | _ => none
def kRg3b (e : Ev) (t : IT) : Out IT := .ok t e
def kRg3a (e : Ev) (ds : List D) : Out IT := opt (rng3 ds) (kRg3b e)
def kRg3 (rs : List R) (e : Ev) : Out IT := opt (reads rs e) (kRg3a e)
def iRange3 (t : SL) : SI := fun env => (t env).bind kRg3
@[simp] theorem kRg3b_eq {e : Ev} {t : IT} : kRg3b e t = .ok t e := Eq.trans rfl rfl
@[simp] theorem kRg3a_eq {e : Ev} {ds : List D} : kRg3a e ds = opt (rng3 ds) (kRg3b e) := Eq.trans rfl rfl
@[simp] theorem kRg3_eq {rs : List R} {e : Ev} : kRg3 rs e = opt (reads rs e) (kRg3a e) := Eq.trans rfl rfl
@[simp] theorem iRange3_eq {t : SL} {e : Ev} : iRange3 t e = (t e).bind kRg3 := Eq.trans rfl rfl
section
variable {X : Cx} {W : WX}
end
end DV
namespace DV
open PySem PySem.Spec L2
/-! ### Net(..) that may raise NoNet -/
def raiseX (o : Out Fl) : Out R := match o with
  | .exn x _ => .exn x [.hole, .hole]
  | _ => .bad
@[simp] theorem raiseX_exn {x : Exn} {e : Ev} : raiseX (.exn x e) = .exn x [.hole, .hole] := Eq.trans rfl rfl
section
variable {P : Program} {w : World} {K : PySem.W.Frag} {mg : Str → Option Value} {base : Heap}
end
end DV
namespace DV
open PySem PySem.Spec L2
/-! ### isinstance(x, Net), Net == Net -/
structure IsNet (K : PySem.W.Frag) (mg : Str → Option Value) : Prop where
  ex : ∃ C, mg "Net" = some (.ref C) ∧ Cls K C ∧ PySem.W.findIn K (.ref C) "__class__" = some (some (.builtin "object.__class__")) ∧ PySem.W.specialIn K (.builtin "object.__class__") "__get__" = some (some (.builtin "getset_descriptor.__get__")) ∧
    PySem.W.takesIn K (.builtin "object.__class__") = some true ∧ PySem.W.mroIn K C (.type "object") = some true
def gIsNet (d : D) : Option R := match d with
  | .obj c _ _ => if c = "Net" then some (.val (.bl true)) else none
  | _ => none
@[simp] theorem gIsNet_net {ks : List Str} {ds : List D} : gIsNet (.obj "Net" ks ds) = some (.val (.bl true)) := by
  unfold gIsNet
  exact if_pos rfl
section
variable {X : Cx} {W : WX}
theorem de_isNet {x : Expr} {s : SE} {p p2 pos : Pos} (IN : IsNet X.K X.mg) (hm : X.mg "isinstance" = none) (he : DE W X x s)
    (hg : Gl X "isinstance" := by rfl) (hg2 : Gl X "Net" := by rfl) (hb : bootBuiltins "isinstance" = some (.builtin "isinstance") := by decide +kernel)
    (he1 : starEach [x, .Name "Net" p2] X.env = (false, eval x X.env) :: starEach [.Name "Net" p2] X.env := by rfl) (he2 : starEach [.Name "Net" p2] X.env = (false, eval (.Name "Net" p2) X.env) :: starEach [] X.env := by rfl)
    (hpl : (backTo pos (starEach [.Name "Net" p2] X.env)).any (·.1) = false := by rfl) : DE W X (.Call (.Name "isinstance" p) [x, .Name "Net" p2] [] pos) (vUn gIsNet s) := by
  obtain ⟨C, hC, cl, s5, s6, s7, s8⟩ := IN.ex
  refine weakE (pe_callB call_isi hg hm hb (pa_cons he (pa_cons (pe_glob (v := V.ref C) (u := .ref C) hg2 hC rfl) pa_nil he2) he1) (by decide) (by decide) he1 hpl) fun σ H Q ⟨Z, env, rep, h⟩ => ⟨Z, env, rep, h.bind.mono fun r e Z1 H1 x1 p v rr => ?_⟩
  split at p
  · rename_i d q
    split at p
    · rename_i b q2
      unfold gIsNet at q2
      split at q2
      · rename_i c ks ds
        by_cases hc : c = "Net"
        · rw [if_pos hc] at q2
          cases q2
          subst hc
          rcases rr.now x1.rep q with e3 | ⟨_, _, _, _, z, _⟩
          · cases e3 with
            | obj g1 g2 g3 g4 =>
              rename_i a C' dx vs
              have g2' : X.mg "Net" = some (.ref C') := g2
              rw [hC] at g2'
              cases g2'
              refine ⟨.ref a, .ref C, .ref C, .ref C, true, rfl, .own C, .base (.ins (x1.rep.sub.th _ _ g1 rfl) cl s5 s6 s7 s8), ?_, p.ok x1.rep _ (.bl true)⟩
              unfold PySem.W.kitOne
              simp
          · cases z
        · rw [if_neg hc] at q2
          cases q2
      · cases q2
    · exact p.elim
  · exact p.elim
end
/-! == of two nets -/
section
variable {X : Cx}
end
def isT (o : Option R) : Bool := match o with
  | some (.val (.bl true)) => true
  | _ => false
structure EqOk (P : Program) (w : World) (K : PySem.W.Frag) (mg : Str → Option Value) (base : Heap) (k : Nat) (F : FSem) : Prop where
  ex : ∃ C f fd, mg "Net" = some (.ref C) ∧ PySem.W.findIn K (.ref C) "__eq__" = some (some (.ref f)) ∧ PySem.W.isFn K (.ref f) = true ∧ Binds K fd ["self", "other"] [] ∧ FnOk P w K mg base (L2N.CX P w) k f fd ["self", "other"] (spF ⟨K, mg, P, w⟩ 2 F.run)
  run : ∀ (m m' : Int) (xs xs' : List D), isT (gEq (.int m) (.int m')) = true → isT (gEq (.tup xs) (.tup xs')) = true → F.run [.val (.obj "Net" ["many", "stores"] [.int m, .tup xs]), .val (.obj "Net" ["many", "stores"] [.int m', .tup xs'])] = .ok (.val (.bl true)) [.hole, .hole]
section
variable {K : PySem.W.Frag} {mg : Str → Option Value}
variable {X : Cx} {W : WX}
structure HasEq (K : PySem.W.Frag) (mg : Str → Option Value) (st : Stmt) : Prop where
  ex : ∃ C f fd, mg "Net" = some (.ref C) ∧ PySem.W.findIn K (.ref C) "__eq__" = some (some (.ref f)) ∧ PySem.W.isFn K (.ref f) = true ∧ Fun K "__eq__" "Net.__eq__" st f fd
end
end DV
namespace DV
open PySem PySem.Spec PyProof.Rows L2 L2N
/-! ### try: body / except A as n: .. / except B as n: .. -/
abbrev TSu := Addr → Value → Option Addr → TS
inductive Clauses (X : Cx) (n : Str) : List ExceptHandler → List (Value × TSu) → Prop
  | nil : Clauses X n [] []
  | cons {x : Str} {c : Value} {ts : TSu} {b₀ : Stmt} {suite : List Stmt} {np pos' : Pos} {hds : List ExceptHandler} {l : List (Value × TSu)} (hc : Names X x c)
      (hsu : ∀ (a : Addr) (oe : Obj) (cls : Value) (d : Option Addr) (pn : List (Addr × Obj)), L2N.Zn cls d oe → (∃ vs, oe.data = .fields vs) → PSs (X.suite a ((a, oe) :: pn)) (b₀ :: suite) (ts a cls d)) (r : Clauses X n hds l) :
      Clauses X n (.ExceptHandler (some (.Name x np)) (some n) (b₀ :: suite) pos' :: hds) ((c, ts) :: l)
section
variable {X : Cx} {n : Str} {i : Nat} {body : List Stmt} {h₀ : ExceptHandler} {hds : List ExceptHandler} {l : List (Value × TSu)} {pos : Pos} {tb : WX → TS} {Wout : WX}
end
/-! what it computes -/
def kTryN (io : Option Nat) : List (List (Str × Bool) × (Exn → SS)) → Exn → Ev → Out Fl
  | [], x, e => .exn x e
  | (tbl, su) :: r, x, e => match tbl.lookup x.c with
    | some true => if okH io e then kSu io (su x e) else .bad
    | some false => kTryN io r x e
    | none => .bad
def kTryO (io : Option Nat) (l : List (List (Str × Bool) × (Exn → SS))) (o : Out Fl) : Out Fl := match o with
  | .exn x e => kTryN io l x e
  | o => o
def sTryN (io : Option Nat) (l : List (List (Str × Bool) × (Exn → SS))) (b : SS) : SS := fun env => kTryO io l (b env)
@[simp] theorem sTryN_eq {io : Option Nat} {l : List (List (Str × Bool) × (Exn → SS))} {b : SS} {e : Ev} : sTryN io l b e = kTryO io l (b e) := Eq.trans rfl rfl
@[simp] theorem kTryO_ok {io : Option Nat} {l : List (List (Str × Bool) × (Exn → SS))} {f : Fl} {e : Ev} : kTryO io l (.ok f e) = .ok f e := Eq.trans rfl rfl
@[simp] theorem kTryO_exn {io : Option Nat} {l : List (List (Str × Bool) × (Exn → SS))} {x : Exn} {e : Ev} : kTryO io l (.exn x e) = kTryN io l x e := Eq.trans rfl rfl
inductive ClsD (X : Cx) (i : Nat) (n : Str) : List ExceptHandler → List (List (Str × Bool) × (Exn → SS)) → List (Value × TSu) → Prop
  | nil : ClsD X i n [] [] []
  | cons {c : Str} {Ch : Addr} {tbl : List (Str × Bool)} {su : Exn → SS} {b₀ : Stmt} {suite : List Stmt} {np pos' : Pos} {hds : List ExceptHandler} {cl : List (List (Str × Bool) × (Exn → SS))} {l : List (Value × TSu)}
      (hm : X.mg c = some (.ref Ch)) (ht : ∀ x b, tbl.lookup x = some b → ∃ Cx, X.mg x = some (.ref Cx) ∧ PySem.W.exmOne X.K (.ref Cx) (.ref Ch) = some b) (hsu : DSu X (some i) (b₀ :: suite) su) (hg : Gl X c) (hdb : (c == ("__debug__" : Str)) = false) (r : ClsD X i n hds cl l) :
      ClsD X i n (.ExceptHandler (some (.Name c np)) (some n) (b₀ :: suite) pos' :: hds) ((tbl, su) :: cl) ((.ref Ch, fun a cls d => tSu (mc X) (some i) a cls d su) :: l)
section
variable {X : Cx} {W : WX} {n : Str} {i : Nat} {hds : List ExceptHandler} {cl : List (List (Str × Bool) × (Exn → SS))} {l : List (Value × TSu)}
end
end DV
namespace DV
open PySem PySem.Spec PyProof.Rows L2
/-! ### a op1 b op2 c op3 d, as a test -/
section
variable {X : Cx} {a b c d : Expr} {ta tb tc td : TE} {pos : Pos}
end
/-- one link: goes on where it holds -/
def chL (g : D → D → Option R) (r r' : R) (k : Ev → Out R) (e : Ev) : Out R := ((opt (r.read e) (kBin2' g (r'.read e) e)).bind fun r e => fin (rBl r) e).bind (way k (kC (.val (.bl false))))
@[simp] theorem chL_eq {g : D → D → Option R} {r r' : R} {k : Ev → Out R} {e : Ev} : chL g r r' k e = ((opt (r.read e) (kBin2' g (r'.read e) e)).bind fun r e => fin (rBl r) e).bind (way k (kC (.val (.bl false)))) := Eq.trans rfl rfl
def kC3d (g'' : D → D → Option R) (r3 r4 : R) (e : Ev) : Out R := opt (r3.read e) (kBin2' g'' (r4.read e) e)
@[simp] theorem kC3d_eq {g'' : D → D → Option R} {r3 r4 : R} {e : Ev} : kC3d g'' r3 r4 e = opt (r3.read e) (kBin2' g'' (r4.read e) e) := Eq.trans rfl rfl
def kC3c (g'' : D → D → Option R) (s4 : SE) (r3 : R) (e : Ev) : Out R := (s4 e).bind (kC3d g'' r3)
@[simp] theorem kC3c_eq {g'' : D → D → Option R} {s4 : SE} {r3 : R} {e : Ev} : kC3c g'' s4 r3 e = (s4 e).bind (kC3d g'' r3) := Eq.trans rfl rfl
def kC3b (g' g'' : D → D → Option R) (s4 : SE) (r2 r3 : R) (e : Ev) : Out R := chL g' r2 r3 (kC3c g'' s4 r3) e
@[simp] theorem kC3b_eq {g' g'' : D → D → Option R} {s4 : SE} {r2 r3 : R} {e : Ev} : kC3b g' g'' s4 r2 r3 e = chL g' r2 r3 (kC3c g'' s4 r3) e := Eq.trans rfl rfl
def kC3a (g' g'' : D → D → Option R) (s3 s4 : SE) (r2 : R) (e : Ev) : Out R := (s3 e).bind (kC3b g' g'' s4 r2)
@[simp] theorem kC3a_eq {g' g'' : D → D → Option R} {s3 s4 : SE} {r2 : R} {e : Ev} : kC3a g' g'' s3 s4 r2 e = (s3 e).bind (kC3b g' g'' s4 r2) := Eq.trans rfl rfl
def kC3 (g g' g'' : D → D → Option R) (s3 s4 : SE) (r1 r2 : R) (e : Ev) : Out R := chL g r1 r2 (kC3a g' g'' s3 s4 r2) e
@[simp] theorem kC3_eq {g g' g'' : D → D → Option R} {s3 s4 : SE} {r1 r2 : R} {e : Ev} : kC3 g g' g'' s3 s4 r1 r2 e = chL g r1 r2 (kC3a g' g'' s3 s4 r2) e := Eq.trans rfl rfl
def kC31 (g g' g'' : D → D → Option R) (s2 s3 s4 : SE) (r1 : R) (e : Ev) : Out R := (s2 e).bind (kC3 g g' g'' s3 s4 r1)
@[simp] theorem kC31_eq {g g' g'' : D → D → Option R} {s2 s3 s4 : SE} {r1 : R} {e : Ev} : kC31 g g' g'' s2 s3 s4 r1 e = (s2 e).bind (kC3 g g' g'' s3 s4 r1) := Eq.trans rfl rfl
def vChain3 (g g' g'' : D → D → Option R) (s1 s2 s3 s4 : SE) (e : Ev) : Out R := (s1 e).bind (kC31 g g' g'' s2 s3 s4)
@[simp] theorem vChain3_eq {g g' g'' : D → D → Option R} {s1 s2 s3 s4 : SE} {e : Ev} : vChain3 g g' g'' s1 s2 s3 s4 e = (s1 e).bind (kC31 g g' g'' s2 s3 s4) := Eq.trans rfl rfl
section
variable {X : Cx} {W : WX} {M : MC} {σ : SV}
end
end DV
namespace DV
open PySem PySem.Spec L2
/-! ### the fewest stores that go back when works are done one after another -/
def backL (ps : Prs) (F : List Int) (w : Int) : List Int := (idxL ps.length).filter fun i => decide ((stP ps i).2 = w) && !decide ((stP ps i).1 ∈ F)
/-- r: the works, the last one done first in the list -/
def stoR (ps : Prs) : List Int → List Int
  | [] => []
  | w :: r => stoR ps r ++ backL ps r w
def srtI (l : List Int) : List Int := l.mergeSort leI
section
variable {ps : Prs} {many : Int}
theorem backL_same {F G : List Int} {w : Int} (h : ∀ x, x ∈ F ↔ x ∈ G) : backL ps F w = backL ps G w := by
  unfold backL
  refine List.filter_congr fun i _ => ?_
  simp only [h]
theorem mem_back {F : List Int} {w i : Int} : i ∈ backL ps F w ↔ okS ps i ∧ (stP ps i).2 = w ∧ (stP ps i).1 ∉ F := by
  unfold backL
  rw [List.mem_filter, mem_idx, Bool.and_eq_true, decide_eq_true_iff, Bool.not_eq_true', decide_eq_false_iff_not]
  exact Iff.rfl
theorem mem_sto : ∀ {r : List Int} {i : Int}, i ∈ stoR ps r → okS ps i ∧ (stP ps i).2 ∈ r
  | [], i, h => by cases h
  | w :: r, i, h => by
    rcases List.mem_append.mp h with h | h
    · have := mem_sto h
      exact ⟨this.1, List.mem_cons_of_mem _ this.2⟩
    · have := mem_back.mp h
      exact ⟨this.1, by rw [this.2.1]; exact List.mem_cons_self⟩
theorem stoR_nd : ∀ {r : List Int}, r.Nodup → (stoR ps r).Nodup
  | [], _ => List.Pairwise.nil
  | w :: r, h => by
    obtain ⟨h1, h2⟩ := List.nodup_cons.mp h
    refine List.nodup_append.mpr ⟨stoR_nd h2, List.Pairwise.filter _ nodup_idx, fun a ha b hb e => ?_⟩
    subst e
    have := (mem_sto ha).2
    rw [(mem_back.mp hb).2.1] at this
    exact h1 this
/-! sorted lists of works -/
theorem srtI_perm {a b : List Int} (h : a.Perm b) : srtI a = srtI b := by
  have h1 := List.mergeSort_perm a leI
  have h2 := List.mergeSort_perm b leI
  have tr : ∀ x y z : Int, leI x y = true → leI y z = true → leI x z = true := fun x y z => by
    unfold leI
    rw [decide_eq_true_iff, decide_eq_true_iff, decide_eq_true_iff]
    omega
  have to : ∀ x y : Int, (leI x y || leI y x) = true := fun x y => by
    unfold leI
    rw [Bool.or_eq_true_iff, decide_eq_true_iff, decide_eq_true_iff]
    omega
  refine List.Perm.eq_of_pairwise (le := fun s t => leI s t = true) (fun x y _ _ hx hy => ?_) ?_ ?_ (h1.trans (h.trans h2.symm))
  · unfold leI at hx hy
    rw [decide_eq_true_iff] at hx hy
    omega
  · exact List.pairwise_mergeSort tr to a
  · exact List.pairwise_mergeSort tr to b
theorem srtI_self {a : List Int} (h : a.Pairwise (· < ·)) : srtI a = a := by
  have : srtI a = srtI a := rfl
  unfold srtI
  refine List.mergeSort_of_pairwise (h.imp fun {x y} hxy => ?_)
  unfold leI
  rw [decide_eq_true_iff]
  omega
theorem srtI_strict {a : List Int} (nd : a.Nodup) : (srtI a).Pairwise (· < ·) := by
  have tr : ∀ x y z : Int, leI x y = true → leI y z = true → leI x z = true := fun x y z => by
    unfold leI
    rw [decide_eq_true_iff, decide_eq_true_iff, decide_eq_true_iff]
    omega
  have to : ∀ x y : Int, (leI x y || leI y x) = true := fun x y => by
    unfold leI
    rw [Bool.or_eq_true_iff, decide_eq_true_iff, decide_eq_true_iff]
    omega
  have h1 : (srtI a).Pairwise fun x y => leI x y = true := List.pairwise_mergeSort tr to a
  have h2 : (srtI a).Nodup := ((List.mergeSort_perm a leI).nodup_iff).mpr nd
  refine (h1.and h2).imp fun {x y} ⟨h3, h4⟩ => ?_
  unfold leI at h3
  rw [decide_eq_true_iff] at h3
  omega
theorem srtI_mem {a : List Int} {x : Int} : x ∈ srtI a ↔ x ∈ a := (List.mergeSort_perm a leI).mem_iff
theorem srtI_len {a : List Int} : (srtI a).length = a.length := (List.mergeSort_perm a leI).length_eq
theorem strict_nd {a : List Int} (h : a.Pairwise (· < ·)) : a.Nodup := h.imp fun {x y} h z => by omega
structure KeyF (many : Int) (F : List Int) : Prop where
  srt : F.Pairwise (· < ·)
  rng : ∀ x ∈ F, 0 ≤ x ∧ x < many
theorem KeyF.nd {F : List Int} (h : KeyF many F) : F.Nodup := strict_nd h.srt
theorem KeyF.add {F : List Int} (h : KeyF many F) {w : Int} (w0 : 0 ≤ w) (w1 : w < many) (hw : w ∉ F) : KeyF many (srtI (F ++ [w])) ∧ (srtI (F ++ [w])).length = F.length + 1 ∧ (srtI (F ++ [w])).Perm (w :: F) := by
  refine ⟨⟨srtI_strict (List.nodup_append.mpr ⟨h.nd, by simp, fun a ha b hb e => hw (by rw [List.mem_singleton] at hb; rw [← hb, ← e]; exact ha)⟩), fun x hx => ?_⟩, ?_, ?_⟩
  · rcases List.mem_append.mp (srtI_mem.mp hx) with hx | hx
    · exact h.rng x hx
    · rw [List.mem_singleton] at hx
      omega
  · rw [srtI_len, List.length_append]
    rfl
  · exact (List.mergeSort_perm _ _).trans (List.perm_append_comm)
theorem idx_strict {n : Nat} : (idxL n).Pairwise (· < ·) := by
  unfold idxL
  exact List.Pairwise.map _ (fun a b h => by omega) (List.pairwise_lt_range (n := n))
/-! the table -/
/-- amid the sets of s works: V: which of them were gone on from, with which work -/
structure Fw (ps : Prs) (many : Int) (s : Nat) (V : List Int → Int → Prop) (ks : List (List Int)) (v : List Int → List Int) : Prop where
  nd : ks.Nodup
  key : ∀ F ∈ ks, KeyF many F ∧ F.length ≤ s + 1
  all : ∀ F, KeyF many F → F.length ≤ s → F ∈ ks
  next : ∀ F w, V F w → w ∉ F → srtI (F ++ [w]) ∈ ks ∧ (v (srtI (F ++ [w]))).length ≤ (v F).length + (backL ps F w).length
  ord : ∀ F ∈ ks, ∃ r, r.Perm F ∧ v F = stoR ps r
  min : ∀ F ∈ ks, F.length ≤ s → ∀ r, r.Perm F → (v F).length ≤ (stoR ps r).length
variable {s : Nat} {V : List Int → Int → Prop} {ks : List (List Int)} {v : List Int → List Int}
theorem Fw.ord_add (A : Fw ps many s V ks v) {F : List Int} (hF : F ∈ ks) {w : Int} (w0 : 0 ≤ w) (w1 : w < many) (hw : w ∉ F) : ∃ r, r.Perm (srtI (F ++ [w])) ∧ v F ++ backL ps F w = stoR ps r := by
  obtain ⟨r, h1, h2⟩ := A.ord F hF
  refine ⟨w :: r, (List.Perm.cons w h1).trans ((A.key F hF).1.add w0 w1 hw).2.2.symm, ?_⟩
  show _ = stoR ps r ++ backL ps r w
  rw [h2, backL_same (F := F) (G := r) fun x => h1.mem_iff.symm]
/-- nothing done -/
theorem Fw.stay (A : Fw ps many s V ks v) {F : List Int} {w : Int} (h : w ∈ F ∨ (srtI (F ++ [w]) ∈ ks ∧ (v (srtI (F ++ [w]))).length ≤ (v F).length + (backL ps F w).length)) : Fw ps many s (fun G x => V G x ∨ (G = F ∧ x = w)) ks v :=
  ⟨A.nd, A.key, A.all, fun G x hV hx => by
    rcases hV with hV | ⟨rfl, rfl⟩
    · exact A.next G x hV hx
    · exact h.resolve_left hx, A.ord, A.min⟩
/-- a better one, or a new one -/
theorem Fw.put (A : Fw ps many s V ks v) (vk : ∀ F w, V F w → F ∈ ks ∧ F.length = s ∧ 0 ≤ w ∧ w < many) {F : List Int} {w : Int} (hF : F ∈ ks) (hs : F.length = s) (w0 : 0 ≤ w) (w1 : w < many) (hw : w ∉ F) {ks' : List (List Int)}
    (hk : (srtI (F ++ [w]) ∉ ks ∧ ks' = ks ++ [srtI (F ++ [w])]) ∨ (srtI (F ++ [w]) ∈ ks ∧ ks' = ks ∧ (v F).length + (backL ps F w).length ≤ (v (srtI (F ++ [w]))).length)) :
    Fw ps many s (fun G x => V G x ∨ (G = F ∧ x = w)) ks' (fun G => if G = srtI (F ++ [w]) then v F ++ backL ps F w else v G) := by
  obtain ⟨a1, a2, a3⟩ := (A.key F hF).1.add w0 w1 hw
  have hsub : ∀ G ∈ ks, G ∈ ks' := fun G hG => by
    rcases hk with ⟨_, e⟩ | ⟨_, e, _⟩
    · rw [e]; exact List.mem_append_left _ hG
    · rw [e]; exact hG
  have hin : ∀ G ∈ ks', G ∈ ks ∨ G = srtI (F ++ [w]) := fun G hG => by
    rcases hk with ⟨_, e⟩ | ⟨_, e, _⟩
    · rw [e] at hG
      rcases List.mem_append.mp hG with h | h
      · exact .inl h
      · exact .inr (List.mem_singleton.mp h)
    · rw [e] at hG
      exact .inl hG
  have hme : srtI (F ++ [w]) ∈ ks' := by
    rcases hk with ⟨_, e⟩ | ⟨h, e, _⟩
    · rw [e]; simp
    · rw [e]; exact h
  have old : ∀ G : List Int, G.length ≤ s → ¬ G = srtI (F ++ [w]) := fun G hG e => by
    rw [e, a2] at hG
    omega
  refine ⟨?_, fun G hG => ?_, fun G hG hl => hsub G (A.all G hG hl), fun G x hV hx => ?_, fun G hG => ?_, fun G hG hl r hr => ?_⟩
  · rcases hk with ⟨h, e⟩ | ⟨h, e, _⟩
    · rw [e]
      exact List.nodup_append.mpr ⟨A.nd, by simp, fun a ha b hb z => h (by rw [List.mem_singleton] at hb; rw [← hb, ← z]; exact ha)⟩
    · rw [e]; exact A.nd
  · rcases hin G hG with h | h
    · exact A.key G h
    · rw [h]
      exact ⟨a1, by omega⟩
  · have fact : ∀ G x, V G x → x ∉ G → srtI (G ++ [x]) ∈ ks' ∧ (if srtI (G ++ [x]) = srtI (F ++ [w]) then v F ++ backL ps F w else v (srtI (G ++ [x]))).length ≤ (v G).length + (backL ps G x).length := fun G x hV hx => by
      obtain ⟨n1, n2⟩ := A.next G x hV hx
      refine ⟨hsub _ n1, ?_⟩
      by_cases q : srtI (G ++ [x]) = srtI (F ++ [w])
      · rw [if_pos q]
        rcases hk with ⟨h, _⟩ | ⟨_, _, h⟩
        · exact absurd (by rw [← q]; exact n1) h
        · rw [q] at n2
          rw [List.length_append]
          omega
      · rw [if_neg q]
        exact n2
    rcases hV with hV | ⟨rfl, rfl⟩
    · have hG := (vk G x hV).2.1
      rw [if_neg (old G (by omega))]
      exact fact G x hV hx
    · rw [if_pos rfl, if_neg (old G (by omega)), List.length_append]
      exact ⟨hme, Nat.le_refl _⟩
  · by_cases q : G = srtI (F ++ [w])
    · rw [if_pos q, q]
      exact A.ord_add hF w0 w1 hw
    · rw [if_neg q]
      rcases hin G hG with h | h
      · exact A.ord G h
      · exact absurd h q
  · rw [if_neg (old G hl)]
    rcases hin G hG with h | h
    · exact A.min G h hl r hr
    · exact absurd h (old G hl)
/-- all of s works gone on from: on to the next -/
theorem Fw.up (A : Fw ps many s V ks v) (hV : ∀ F w, KeyF many F → F.length = s → 0 ≤ w → w < many → V F w) : Fw ps many (s + 1) (fun _ _ => False) ks v := by
  have step : ∀ G r, KeyF many G → G.length = s + 1 → r.Perm G → ∃ w r', r = w :: r' ∧ 0 ≤ w ∧ w < many ∧ KeyF many (srtI r') ∧ (srtI r').length = s ∧ w ∉ srtI r' ∧ srtI (srtI r' ++ [w]) = G := fun G r hG hl hr => by
    cases r with
    | nil => rw [← hr.length_eq] at hl; simp at hl
    | cons w r' =>
      have nd := (hr.nodup_iff).mpr hG.nd
      obtain ⟨n1, n2⟩ := List.nodup_cons.mp nd
      have hw := hG.rng w (hr.mem_iff.mp List.mem_cons_self)
      refine ⟨w, r', rfl, hw.1, hw.2, ⟨srtI_strict n2, fun x hx => hG.rng x (hr.mem_iff.mp (List.mem_cons_of_mem _ (srtI_mem.mp hx)))⟩, ?_, fun z => n1 (srtI_mem.mp z), ?_⟩
      · rw [srtI_len]
        have := hr.length_eq
        rw [List.length_cons] at this
        omega
      · have : (srtI r' ++ [w]).Perm G := (((List.mergeSort_perm r' leI).append_right [w]).trans List.perm_append_comm).trans hr
        rw [srtI_perm this, srtI_self hG.srt]
  refine ⟨A.nd, fun F hF => ⟨(A.key F hF).1, by have := (A.key F hF).2; omega⟩, fun F hF hl => ?_, fun F w h => h.elim, A.ord, fun F hF hl r hr => ?_⟩
  · by_cases q : F.length ≤ s
    · exact A.all F hF q
    · obtain ⟨w, r', e, w0, w1, k1, k2, k3, k4⟩ := step F F hF (by omega) (List.Perm.refl _)
      have := (A.next _ w (hV _ w k1 k2 w0 w1) k3).1
      rw [k4] at this
      exact this
  · by_cases q : F.length ≤ s
    · exact A.min F hF q r hr
    · obtain ⟨w, r', e, w0, w1, k1, k2, k3, k4⟩ := step F r (A.key F hF).1 (by omega) hr
      have h1 := (A.next _ w (hV _ w k1 k2 w0 w1) k3).2
      rw [k4] at h1
      have h2 := A.min _ (A.all _ k1 (by omega)) (by omega) r' (List.mergeSort_perm r' leI).symm
      rw [e]
      show _ ≤ (stoR ps r' ++ backL ps r' w).length
      rw [List.length_append, ← backL_same (F := srtI r') (G := r') fun x => srtI_mem]
      omega
/-- what fewest tells -/
structure FewOk (ps : Prs) (many : Int) (st : List Int) : Prop where
  ord : ∃ r, r.Perm (idxL many.toNat) ∧ st.Perm (stoR ps r)
  min : ∀ r, r.Perm (idxL many.toNat) → st.length ≤ (stoR ps r).length
theorem Fw.done (A : Fw ps many many.toNat V ks v) (m0 : 0 ≤ many) : idxL many.toNat ∈ ks ∧ FewOk ps many (srtI (v (idxL many.toNat))) := by
  have hK : KeyF many (idxL many.toNat) := ⟨idx_strict, fun x hx => by have := mem_idx.mp hx; omega⟩
  have hl : (idxL many.toNat).length = many.toNat := by simp [idxL]
  have hin := A.all _ hK (by omega)
  obtain ⟨r, h1, h2⟩ := A.ord _ hin
  refine ⟨hin, ⟨r, h1, ?_⟩, fun r hr => ?_⟩
  · rw [← h2]
    exact List.mergeSort_perm _ _
  · rw [srtI_len]
    exact A.min _ hin (by omega) r hr
theorem FewOk.ok {st : List Int} (A : FewOk ps many st) : ∀ i ∈ st, okS ps i := fun i hi => by
  obtain ⟨r, _, h2⟩ := A.ord
  exact (mem_sto (h2.mem_iff.mp hi)).1
theorem FewOk.nd {st : List Int} (A : FewOk ps many st) : st.Nodup := by
  obtain ⟨r, h1, h2⟩ := A.ord
  exact (h2.nodup_iff).mpr (stoR_nd ((h1.nodup_iff).mpr nodup_idx))
end
end DV
namespace DV
open PySem PySem.Spec L2 PyProof.Rows
/-! ### sorted(set(xs)) of a tuple of ints -/
section
variable {P : Program} {w : World} {A : Around} {E : Value → Shared → Prop} {s : Shared}
end
def sortSetT (d : D) : Option R := match d with
  | .tup xs => match allOf D.int? xs with
    | some ns => if ns.length < 64 then some (.new (nums (ssN ns))) else none
    | none => none
  | _ => none
@[simp] theorem sortSetT_nums {ns : List Int} (h : ns.length < 64) : sortSetT (.tup (nums ns)) = some (.new (nums (ssN ns))) := by
  unfold sortSetT
  simp only [allOf_ints, h, if_true]
end DV
namespace DV
open PySem PySem.Spec PyProof.Rows L2 L2H
/-! ### expressions of an except suite, told by the exception and what else stands -/
section
variable {M : MC} {Z H Z' H' : Hp} {env env' : Ev} {σ : SV} {io : Option Nat} {a : Addr} {cls : Value} {d : Option Addr} {x : Exn}
end
def xD (s : SE) : Exn → SE := fun _ => s
def xAnd (f g : Exn → SE) : Exn → SE := fun x => vAnd (f x) (g x)
def xBin (g : D → D → Option R) (f1 f2 : Exn → SE) : Exn → SE := fun x => vBin g (f1 x) (f2 x)
def xCall (F : FSem) (f : Exn → SL) : Exn → SE := fun x => vCall F (f x)
def xNil : Exn → SL := fun _ => vNil
def xCons (f : Exn → SE) (g : Exn → SL) : Exn → SL := fun x => vCons (f x) (g x)
def xRetX (f : Exn → SE) : Exn → SS := fun x => sRet (f x)
/-! ### defs called while an exception is handled -/
section
variable {P : Program} {w : World} {K : PySem.W.Frag} {mg : Str → Option Value} {base : Heap}
structure FOH (P : Program) (w : World) (K : PySem.W.Frag) (mg : Str → Option Value) (base : Heap) (k : Nat) (x : Str) (ps : List Str) (F : FSem) : Prop where
  ex : ∃ f fd, mg x = some (.ref f) ∧ PySem.W.keepIn K (.ref f) = true ∧ Binds K fd ps [] ∧ FnH P w K mg base (L2N.CX P w) k f fd ps (spF ⟨K, mg, P, w⟩ ps.length F.run)
end
section
variable {X : Cx} {io : Option Nat} {e b : Expr} {es rest : List Expr} {pos p : Pos}
end
/-! running -/
@[simp] theorem xRetX_eq {f : Exn → SE} {x : Exn} {e : Ev} : xRetX f x e = sRet (f x) e := Eq.trans rfl rfl
@[simp] theorem xD_eq {s : SE} {x : Exn} {e : Ev} : xD s x e = s e := Eq.trans rfl rfl
@[simp] theorem xAnd_eq {f g : Exn → SE} {x : Exn} {e : Ev} : xAnd f g x e = vAnd (f x) (g x) e := Eq.trans rfl rfl
@[simp] theorem xBin_eq {g : D → D → Option R} {f1 f2 : Exn → SE} {x : Exn} {e : Ev} : xBin g f1 f2 x e = vBin g (f1 x) (f2 x) e := Eq.trans rfl rfl
@[simp] theorem xCall_eq {F : FSem} {f : Exn → SL} {x : Exn} {e : Ev} : xCall F f x e = vCall F (f x) e := Eq.trans rfl rfl
@[simp] theorem xNil_eq {x : Exn} {e : Ev} : xNil x e = vNil e := Eq.trans rfl rfl
@[simp] theorem xCons_eq {f : Exn → SE} {g : Exn → SL} {x : Exn} {e : Ev} : xCons f g x e = vCons (f x) (g x) e := Eq.trans rfl rfl
end DV
/-! != of lists and tuples item by item (the False side), with an own __eq__ among the items -/
namespace GQ
open PySem PySem.SeqAt
open AutoSeq1 (wpAny_loadPart')
open MeetsSeq MeetsSeq2 MeetsSeq3 SeqRoads2
section
variable {prog : Program} {w : World} {A : Around} {R : Result → Shared → Prop}
end
section
variable {prog : Program} {w : World} {A : Around} {E : Value → Shared → Prop} {s : Shared}
end
end GQ
namespace L2
open PySem PySem.Spec PyProof.Rows
section
variable {X : Cx} {n m : Nat} {D D' : Eqv}
def RnG (X : Cx) (n : Nat) (D : Eqv) : Prop :=
  ∀ (A : Around) (pins : List (Addr × Obj)) (s : Shared) (σ : St) (H : Hp) (x y : V) (u v : Value), Sub X n A → Inv X pins σ H s → RelV x u → RelV y v → D x y H →
    wpAny (model X.prog X.w) A (richCompare .NotEq u v) (fun r s' => r = .bool false ∧ ∃ H', Inv X pins σ H' s' ∧ Ext H H') X.xe s
theorem RcG.or (h : RcG X n D) (h' : RcG X n D') : RcG X n (fun x y H => D x y H ∨ D' x y H) := fun A pins s σ H x y u v sb I rx ry d => by
  rcases d with d | d
  · exact h A pins s σ H x y u v sb I rx ry d
  · exact h' A pins s σ H x y u v sb I rx ry d
theorem RnG.or (h : RnG X n D) (h' : RnG X n D') : RnG X n (fun x y H => D x y H ∨ D' x y H) := fun A pins s σ H x y u v sb I rx ry d => by
  rcases d with d | d
  · exact h A pins s σ H x y u v sb I rx ry d
  · exact h' A pins s σ H x y u v sb I rx ry d
end
end L2
namespace DV
open PySem PySem.Spec L2
section
variable {X : Cx} {k : Nat} {F : FSem}
end
end DV
namespace DV
open PySem PySem.Spec L2
/-! ### texts -/
abbrev TLN : Nat := 4000
def sgn (c : Nat) : Str := ⟨#[c]⟩
section
variable {M : MC} {Z H : Hp} {x : V}
theorem Now.str' {a : Str} (h : Now M Z H x (.str a)) : x = .str a := by
  rcases h with h | ⟨_, _, _, _, z, _⟩
  · cases h; rfl
  · cases z
theorem Now.int' {a : Int} (h : Now M Z H x (.int a)) : x = .int a := h.int
end
def gIxS (d e : D) : Option R := match d, e with
  | .str z, .int i => if z.length ≤ TLN then (match L2.atI z.cps.toList i with
    | some c => some (.val (.str (sgn c)))
    | none => none) else none
  | _, _ => none
theorem line_tl {n : Nat} (h : n ≤ TLN) : n ≤ sizeLine := by unfold TLN at h; unfold sizeLine; omega
theorem okIxS {M : MC} : OpD M (rIx M.K) gIxS := by
  intro Z H x y dx dy res Q zs nx ny hg k
  unfold gIxS at hg
  split at hg
  · rename_i z i
    split at hg
    · rename_i hz
      split at hg
      · rename_i c hc
        cases hg
        have e1 := nx.str'
        have e2 := ny.int'
        exact .inr (.inr ⟨z, i, c, e1, e2, line_tl hz, hc, k _ Z H (.refl zs) (.str _)⟩)
      · cases hg
    · cases hg
  · cases hg
def gAddS (d e : D) : Option R := match d, e with
  | .str a, .str b => if a.length + b.length ≤ TLN then some (.val (.str (a ++ b))) else none
  | _, _ => none
def rAddS' : R2 := fun x y H Q => ∃ i j, x = .str i ∧ y = .str j ∧ i.length + j.length ≤ sizeLine ∧ Q (.str (i ++ j)) H
theorem okAddS {M : MC} : OpD M rAddS' gAddS := by
  intro Z H x y dx dy res Q zs nx ny hg k
  unfold gAddS at hg
  split at hg
  · rename_i a b
    split at hg
    · rename_i hz
      cases hg
      exact ⟨a, b, nx.str', ny.str', line_tl hz, k _ Z H (.refl zs) (.str _)⟩
    · cases hg
  · cases hg
theorem op_addS {X : Cx} : OpR X (binaryOp .Add) rAddS' := op_add_str
def gInS (neg : Bool) (d e : D) : Option R := match d, e with
  | .str a, .str b => (match a.cps.toList with
    | [c] => some (.val (.bl (if neg then !decide (c ∈ b.cps.toList) else decide (c ∈ b.cps.toList))))
    | _ => none)
  | _, _ => none
def gEqT (d e : D) : Option R := match d, e with
  | .str a, .str b => some (.val (.bl (decide (a = b))))
  | _, _ => none
def gNeT (d e : D) : Option R := match d, e with
  | .str a, .str b => some (.val (.bl (!decide (a = b))))
  | _, _ => none
/-- len(text), int(text) -/
def gLenS (ds : List D) : Option R := match ds with
  | [.str z] => if z.length ≤ TLN then some (.val (.int (z.length : Nat))) else none
  | _ => none
def rLenS : List V → Hp → VK → Prop := fun xs H Q => ∃ z, xs = [.str z] ∧ z.length ≤ sizeLine ∧ Q (.int z.length) H
theorem okLenS {M : MC} : CallD M rLenS gLenS := by
  intro Z H xs ds res Q sb hn hg k
  unfold gLenS at hg
  split at hg
  · rename_i z
    split at hg
    · rename_i hz
      cases hg
      obtain ⟨v, e1, e2⟩ := nows1 hn
      have e3 := e2.str'
      subst e1 e3
      exact ⟨z, rfl, line_tl hz, k _ Z H (.refl sb) (.int _)⟩
    · cases hg
  · cases hg
theorem call_lenS {X : Cx} : CallR X (.builtin "len") rLenS := call_len_str
/-! slices -/
def gSlS (d : D) (lo hi : Option Int) : Option R := match d with
  | .str z => if z.length ≤ TLN then some (.val (.str (cutS z lo hi))) else none
  | _ => none
def vSlS (s : SE) (lo hi : SO) : SE := fun env => (s env).bind fun r e1 => (lo e1).bind fun l e2 => (hi e2).bind fun u e3 => match r.read e3 with
  | some d => match gSlS d l u with
    | some res => .ok res e3
    | none => .bad
  | none => .bad
section
variable {X : Cx} {W : WX}
end
/-! methods of a text with one argument -/
def vM1 (g : Str → D → Option R) (s t : SE) : SE := fun env => (s env).bind fun r1 e1 => match r1 with
  | .val (.str a) => (t e1).bind fun r2 e2 => match r2.read e2 with
    | some b => (match g a b with
      | some r => .ok r e2
      | none => .bad)
    | none => .bad
  | _ => .bad
def M1D (M : MC) (r : V → List V → Hp → VK → Prop) (g : Str → D → Option R) : Prop := ∀ (Z H : Hp) (a : Str) (y : V) (dy : D) (res : R) (Q : VK), Sub Z H → Now M Z H y dy → g a dy = some res →
  (∀ v Z' H', Grow Z H Z' H' → RN M Z' H' H v res → Q v H') → r (.str a) [y] H Q
section
variable {X : Cx} {W : WX}
theorem m1_ok {M : MC} {rl : V → List V → Hp → VK → Prop} {g : Str → D → Option R} {s1 s2 : SE} (hg : M1D M rl g) {σ : SV} {H : Hp} {Q : VK} (h : tE M W (vM1 g s1 s2) σ H Q) : tM1 rl (tE M W s1) (tE M W s2) σ H Q := by
  obtain ⟨Z, env, rep, h⟩ := h
  refine ⟨Z, env, rep, h.bind.mono fun r1 e1 Z1 H1 x1 p v1 rr1 => ?_⟩
  split at p
  · rename_i a
    have ev : v1 = .str a := by
      have rr1 : Rp M Z1 v1 (.str a) := rr1
      cases rr1
      rfl
    subst ev
    refine ⟨⟨a, rfl⟩, Z1, e1, x1.rep, (show Post M W Z1 H1 e1 σ ((s2 e1).bind _) _ from p).bind.mono fun r2 e2 Z2 H2 x2 p v2 rr2 => ?_⟩
    have rr2 := rr2.older x1.alive
    have x2 := x1.trans x2
    cases q2 : r2.read e2 with
    | none => simp only [q2] at p; exact p.elim
    | some b =>
      simp only [q2] at p
      cases q3 : g a b with
      | none => rw [q3] at p; exact p.elim
      | some res =>
        rw [q3] at p
        refine hg Z2 H2 a v2 b res Q x2.rep.sub (rr2.now x2.rep q2) q3 fun v Z3 H3 gr rn => ?_
        exact p.okG x2.rep gr v (rn.rr x2.rep x2.alive)
  · exact p.elim
theorem de_m1 {id : String} {name : Str} {o e : Expr} {apos pos : Pos} {r : V → List V → Hp → VK → Prop} {g : Str → D → Option R} {s t : SE} (slot : Slot "str" name id) (ty : typeOf (.builtin id) = pure (.type "method_descriptor")) (rule : MtR X id r) (hg : M1D (mc X) r g) (ho : DE W X o s) (he : DE W X e t)
    (hs : starEach [e] X.env = [(false, eval e X.env)] := by rfl) (hbase : attributeBase o name X.env (eval o X.env) = eval o X.env := by rfl) (hline : (apos.endLine == pos.line) = true := by rfl) :
    DE W X (.Call (.Attribute o name apos) [e] [] pos) (vM1 g s t) := weakE (pe_m1 slot ty rule ho he hs hbase hline) fun _ _ _ h => m1_ok hg h
end
/-- the texts of a list -/
def strsOf : List D → Option (List Str)
  | [] => some []
  | .str x :: ds => (strsOf ds).map (x :: ·)
  | _ :: _ => none
theorem strs_rps {M : MC} {Z : Hp} : ∀ {vs : List V} {ds : List D} {ys : List Str}, Rps M Z vs ds → strsOf ds = some ys → vs = ys.map V.str
  | _, [], ys, .nil, h => by cases h; rfl
  | _, d :: ds, ys, .cons a as, h => by
    cases d with
    | str x =>
      cases a
      have h : (strsOf ds).map (x :: ·) = some ys := h
      obtain ⟨zs, h1, rfl⟩ := Option.map_eq_some_iff.mp h
      rw [strs_rps as h1]
      rfl
    | _ => cases h
theorem strs_map (ys : List Str) : strsOf (ys.map D.str) = some ys := by
  induction ys with
  | nil => rfl
  | cons y ys ih =>
    rw [List.map_cons]
    show (strsOf (ys.map D.str)).map (y :: ·) = _
    rw [ih]
    rfl
def gJoin (a : Str) (d : D) : Option R := match seqOf d with
  | some ds => (match strsOf ds with
    | some ys => if (ys.map (·.length)).sum + ys.length * a.length ≤ TLN then some (.val (.str (Str.join a ys))) else none
    | none => none)
  | none => none
def rJoin (K : PySem.W.Frag) : V → List V → Hp → VK → Prop := fun x xs H Q => ∃ a p, ∃ ys : List Str, x = .str a ∧ xs = [.ref p] ∧ (SqL K H p (ys.map V.str) ∨ SqT K H p (ys.map V.str)) ∧
    (ys.map (·.length)).sum + ys.length * a.length ≤ 16777216 ∧ Q (.str (Txt.join a ys)) H
theorem okJoin {M : MC} : M1D M (rJoin M.K) gJoin := by
  intro Z H a y dy res Q zs ny hg k
  unfold gJoin at hg
  split at hg
  · rename_i ds hd
    split at hg
    · rename_i ys hy
      split at hg
      · rename_i hz
        cases hg
        have key : ∃ p vs, y = .ref p ∧ (SqL M.K H p vs ∨ SqT M.K H p vs) ∧ Rps M Z vs ds := by
          cases dy with
          | tup xs =>
            cases hd
            obtain ⟨p, vs, e1, e2, _, e3⟩ := ny.tup zs
            exact ⟨p, vs, e1, .inr e2, e3⟩
          | lst xs =>
            cases hd
            obtain ⟨p, vs, e1, e2, e3⟩ := ny.lst zs
            exact ⟨p, vs, e1, .inl (.inl (.inl e2)), e3⟩
          | scr xs =>
            cases hd
            obtain ⟨p, vs, e1, e2, e3⟩ := ny.scr zs
            exact ⟨p, vs, e1, .inl e2, e3⟩
          | _ => cases hd
        obtain ⟨p, vs, e1, e2, e3⟩ := key
        have e4 := strs_rps e3 hy
        subst e4
        refine ⟨a, p, ys, rfl, by rw [e1], e2, by unfold TLN at hz; omega, ?_⟩
        rw [_root_.TL.join_eq]
        exact k _ Z H (.refl zs) (.str _)
      · cases hg
    · cases hg
  · cases hg
theorem mt_joinD {X : Cx} : MtR X "str.join" (rJoin X.K) := mt_join
def gSplit (a : Str) (d : D) : Option R := match d with
  | .str b => if (b.length == 0) = false ∧ a.length ≤ TLN then some (.new ((Txt.split a b).map D.str)) else none
  | _ => none
def rSplit : V → List V → Hp → VK → Prop := fun x xs H Q => ∃ a b, x = .str a ∧ xs = [.str b] ∧ (b.length == 0) = false ∧ a.length + 2 ≤ sizeLine ∧ rNewStrs (Txt.split a b) H Q
theorem rps_strs {M : MC} {Z : Hp} : ∀ ys : List Str, Rps M Z (ys.map V.str) (ys.map D.str)
  | [] => .nil
  | y :: ys => .cons (.str y) (rps_strs ys)
theorem okSplit {M : MC} : M1D M rSplit gSplit := by
  intro Z H a y dy res Q zs ny hg k
  unfold gSplit at hg
  split at hg
  · rename_i b
    split at hg
    · rename_i hz
      cases hg
      refine ⟨a, b, rfl, by rw [ny.str'], hz.1, by have := hz.2; unfold TLN at this; unfold sizeLine; omega, fun p hp => ?_⟩
      exact k _ Z _ (Grow.own zs hp) ⟨p, _, rfl, upd_same, none_of_sub zs hp, rps_strs _, hp⟩
    · cases hg
  · cases hg
theorem mt_splitD {X : Cx} : MtR X "str.split" rSplit := mt_split
/-! f-strings -/
def vFmt (s : SE) : SE := fun env => (s env).bind fun r e1 => match r with
  | .val (.str y) => if y.length ≤ TLN then .ok (.val (.str y)) e1 else .bad
  | .val (.int i) => if i.natAbs.log2 < 1920 then .ok (.val (.str (toString i))) e1 else .bad
  | _ => .bad
def vJs : List SE → Str → SE
  | [], acc, e => .ok (.val (.str acc)) e
  | s :: ss, acc, e => (s e).bind fun r e1 => match r with
    | .val (.str y) => if (acc ++ y).length ≤ TLN then vJs ss (acc ++ y) e1 else .bad
    | _ => .bad
section
variable {X : Cx} {W : WX}
inductive DJ (W : WX) (X : Cx) : List Expr → List SE → Prop where
  | nil : DJ W X [] []
  | cons {e : Expr} {t : SE} {es : List Expr} {ts : List SE} (h : DE W X e t) (r : DJ W X es ts) : DJ W X (e :: es) (t :: ts)
end
/-! the signs of a text, one by one -/
def signsD (x : Str) : List D := x.cps.toList.map fun c => .str (sgn c)
def iStrD (s : SE) : SI := fun env => (s env).bind fun r e => match r with
  | .val (.str x) => .ok ⟨signsD x, []⟩ e
  | _ => .bad
/-! running -/
def kIS (r : R) (e : Ev) : Out IT := match r with
  | .val (.str x) => .ok ⟨signsD x, []⟩ e
  | _ => .bad
@[simp] theorem kIS_eq {x : Str} {e : Ev} : kIS (.val (.str x)) e = .ok ⟨signsD x, []⟩ e := Eq.trans rfl rfl
@[simp] theorem iStrD_eq {s : SE} {e : Ev} : iStrD s e = (s e).bind kIS := Eq.trans rfl rfl
def kM1c (g : Str → D → Option R) (a : Str) (e : Ev) (b : D) : Out R := fin (g a b) e
@[simp] theorem kM1c_eq {g : Str → D → Option R} {a : Str} {e : Ev} {b : D} : kM1c g a e b = fin (g a b) e := Eq.trans rfl rfl
def kM1b (g : Str → D → Option R) (a : Str) (r : R) (e : Ev) : Out R := opt (r.read e) (kM1c g a e)
@[simp] theorem kM1b_eq {g : Str → D → Option R} {a : Str} {r : R} {e : Ev} : kM1b g a r e = opt (r.read e) (kM1c g a e) := Eq.trans rfl rfl
def kM1a (g : Str → D → Option R) (t : SE) (r : R) (e : Ev) : Out R := match r with
  | .val (.str a) => (t e).bind (kM1b g a)
  | _ => .bad
@[simp] theorem kM1a_eq {g : Str → D → Option R} {a : Str} {t : SE} {e : Ev} : kM1a g t (.val (.str a)) e = (t e).bind (kM1b g a) := Eq.trans rfl rfl
@[simp] theorem vM1_eq {g : Str → D → Option R} {s t : SE} {e : Ev} : vM1 g s t e = (s e).bind (kM1a g t) := by
  unfold vM1
  congr
  funext r1 e1
  unfold kM1a
  split
  · congr
    funext r2 e2
    unfold kM1b
    cases h : r2.read e2 with
    | none => rfl
    | some b =>
      show _ = fin (g _ b) e2
      simp only
      cases g _ b <;> rfl
  · rfl
def kSlS3 (l u : Option Int) (e : Ev) (d : D) : Out R := fin (gSlS d l u) e
@[simp] theorem kSlS3_eq {l u : Option Int} {e : Ev} {d : D} : kSlS3 l u e d = fin (gSlS d l u) e := Eq.trans rfl rfl
def kSlS2 (r : R) (l u : Option Int) (e : Ev) : Out R := opt (r.read e) (kSlS3 l u e)
@[simp] theorem kSlS2_eq {r : R} {l u : Option Int} {e : Ev} : kSlS2 r l u e = opt (r.read e) (kSlS3 l u e) := Eq.trans rfl rfl
def kSlS1 (r : R) (hi : SO) (l : Option Int) (e : Ev) : Out R := (hi e).bind (kSlS2 r l)
@[simp] theorem kSlS1_eq {r : R} {hi : SO} {l : Option Int} {e : Ev} : kSlS1 r hi l e = (hi e).bind (kSlS2 r l) := Eq.trans rfl rfl
def kSlS0 (lo hi : SO) (r : R) (e : Ev) : Out R := (lo e).bind (kSlS1 r hi)
@[simp] theorem kSlS0_eq {lo hi : SO} {r : R} {e : Ev} : kSlS0 lo hi r e = (lo e).bind (kSlS1 r hi) := Eq.trans rfl rfl
@[simp] theorem vSlS_eq {s : SE} {lo hi : SO} {e : Ev} : vSlS s lo hi e = (s e).bind (kSlS0 lo hi) := by
  unfold vSlS
  congr
  funext r e1
  unfold kSlS0
  congr
  funext l e2
  unfold kSlS1
  congr
  funext u e3
  unfold kSlS2
  cases h : r.read e3 with
  | none => rfl
  | some d =>
    simp only [opt, kSlS3]
    cases gSlS d l u <;> rfl
def kFmt (r : R) (e : Ev) : Out R := match r with
  | .val (.str y) => if y.length ≤ TLN then .ok (.val (.str y)) e else .bad
  | .val (.int i) => if i.natAbs.log2 < 1920 then .ok (.val (.str (toString i))) e else .bad
  | _ => .bad
@[simp] theorem vFmt_eq {s : SE} {e : Ev} : vFmt s e = (s e).bind kFmt := Eq.trans rfl rfl
def kJs (ss : List SE) (acc : Str) (r : R) (e : Ev) : Out R := match r with
  | .val (.str y) => if (acc ++ y).length ≤ TLN then vJs ss (acc ++ y) e else .bad
  | _ => .bad
@[simp] theorem vJs_nil {acc : Str} {e : Ev} : vJs [] acc e = .ok (.val (.str acc)) e := Eq.trans rfl rfl
@[simp] theorem vJs_cons {s : SE} {ss : List SE} {acc : Str} {e : Ev} : vJs (s :: ss) acc e = (s e).bind (kJs ss acc) := Eq.trans rfl rfl
theorem gIxS_eq {z : Str} {i : Int} {c : Nat} (h : z.length ≤ TLN) (hc : L2.atI z.cps.toList i = some c) : gIxS (.str z) (.int i) = some (.val (.str (sgn c))) := by
  unfold gIxS
  simp only
  rw [if_pos h, hc]
theorem gAddS_eq {a b : Str} (h : a.length + b.length ≤ TLN) : gAddS (.str a) (.str b) = some (.val (.str (a ++ b))) := if_pos h
@[simp] theorem gInS_eq {c : Nat} {b : Str} {neg : Bool} : gInS neg (.str (sgn c)) (.str b) = some (.val (.bl (if neg then !decide (c ∈ b.cps.toList) else decide (c ∈ b.cps.toList)))) := Eq.trans rfl rfl
@[simp] theorem gEqT_eq {a b : Str} : gEqT (.str a) (.str b) = some (.val (.bl (decide (a = b)))) := Eq.trans rfl rfl
@[simp] theorem gNeT_eq {a b : Str} : gNeT (.str a) (.str b) = some (.val (.bl (!decide (a = b)))) := Eq.trans rfl rfl
theorem gLenS_eq {z : Str} (h : z.length ≤ TLN) : gLenS [.str z] = some (.val (.int (z.length : Nat))) := if_pos h
theorem gJoin_eq {a : Str} {d : D} {ys : List Str} (hd : seqOf d = some (ys.map D.str)) (h : (ys.map (·.length)).sum + ys.length * a.length ≤ TLN) : gJoin a d = some (.val (.str (Str.join a ys))) := by
  unfold gJoin
  rw [hd]
  simp only
  rw [strs_map]
  simp only
  rw [if_pos h]
theorem gSplit_eq {a b : Str} (h1 : (b.length == 0) = false) (h2 : a.length ≤ TLN) : gSplit a (.str b) = some (.new ((Txt.split a b).map D.str)) := if_pos ⟨h1, h2⟩
end DV
/-! != of instances with an own __eq__ and no own __ne__ -/
namespace GNE
open PySem PySem.Spec PySem.W PyProof.Rows PySem.SeqAt
section
variable {prog : Program} {w : World} {A : Around} {E : Value → Shared → Prop} {s : Shared} {K : Frag} {x C L f : Addr} {h₀ : Heap} {m : Str → Option Value} {ox : Obj} {od : Option Obj} {b tb : Value}
end
end GNE
namespace DV
open PySem PySem.Spec L2
/-- != is the class's inherited one -/
structure NeOk (K : PySem.W.Frag) (mg : Str → Option Value) : Prop where
  ex : ∃ C, mg "Net" = some (.ref C) ∧ PySem.W.findIn K (.ref C) "__ne__" = some (some (.builtin "object.__ne__")) ∧ PySem.W.mroIn K C (.type "object") = some true
structure EqB (P : Program) (w : World) (K : PySem.W.Frag) (mg : Str → Option Value) (base : Heap) (k : Nat) (F : FSem) : Prop where
  ex : ∃ C f fd, mg "Net" = some (.ref C) ∧ PySem.W.findIn K (.ref C) "__eq__" = some (some (.ref f)) ∧ PySem.W.isFn K (.ref f) = true ∧ Binds K fd ["self", "other"] [] ∧ FnOk P w K mg base (L2N.CX P w) k f fd ["self", "other"] (spF ⟨K, mg, P, w⟩ 2 F.run)
  run : ∀ (m m' : Int) (xs xs' : List D) (b : Bool), gEq (.tup xs) (.tup xs') = some (.val (.bl b)) → F.run [.val (.obj "Net" ["many", "stores"] [.int m, .tup xs]), .val (.obj "Net" ["many", "stores"] [.int m', .tup xs'])] = .ok (.val (.bl (decide (m = m') && b))) [.hole, .hole]
section
variable {K : PySem.W.Frag} {mg : Str → Option Value}
variable {X : Cx} {W : WX}
end
end DV
namespace DV
open PySem PySem.Spec PyProof.Rows L2
/-! ### enumerate over a text -/
def iEnumS (t : SL) : SI := fun env => (t env).bind fun rs e => match rs with
  | [.val (.str z)] => .ok ⟨enumD 0 (signsD z), []⟩ e
  | _ => .bad
/-! running -/
def kEnS (rs : List R) (e : Ev) : Out IT := match rs with
  | [.val (.str z)] => .ok ⟨enumD 0 (signsD z), []⟩ e
  | _ => .bad
@[simp] theorem kEnS_eq {z : Str} {e : Ev} : kEnS [.val (.str z)] e = .ok ⟨enumD 0 (signsD z), []⟩ e := Eq.trans rfl rfl
@[simp] theorem iEnumS_eq {t : SL} {e : Ev} : iEnumS t e = (t e).bind kEnS := Eq.trans rfl rfl
end DV
namespace DV
open PySem PySem.Spec L2
/-! ### a class's own == asked of anything -/
structure IsOwn (K : PySem.W.Frag) (mg : Str → Option Value) (c : Str) : Prop where
  ex : ∃ C, mg c = some (.ref C) ∧ Cls K C ∧ PySem.W.findIn K (.ref C) "__class__" = some (some (.builtin "object.__class__")) ∧ PySem.W.specialIn K (.builtin "object.__class__") "__get__" = some (some (.builtin "getset_descriptor.__get__")) ∧
    PySem.W.takesIn K (.builtin "object.__class__") = some true ∧ PySem.W.mroIn K C (.type "object") = some true ∧
    (∀ T ∈ ["int", "str", "NoneType", "tuple", "list"], PySem.W.kitOne K (.type T) (.ref C) = some false ∧ PySem.W.notFirst K C (.type T) = true)
def tyD (d : D) : Option String := match d with
  | .int _ => some "int"
  | .str _ => some "str"
  | .non => some "NoneType"
  | .tup _ => some "tuple"
  | .lst _ => some "list"
  | _ => none
theorem tyD_mem {d : D} {T : String} (h : tyD d = some T) : T ∈ ["int", "str", "NoneType", "tuple", "list"] := by
  cases d <;> simp [tyD] at h <;> subst h <;> simp
theorem tyX_of {M : MC} {Z H : Hp} {v : V} {d : D} {T : String} (sb : Sub Z H) (r : Rp M Z v d) (h : tyD d = some T) : TyX M.K H v (.type T) := by
  cases r with
  | non => cases h; exact .base .non
  | bl b => cases h
  | int i => cases h; exact .base (.int i)
  | str x => cases h; exact .base (.str x)
  | tup g1 g2 =>
    cases h
    rcases g1 with ⟨o, g, _⟩ | ⟨o, its, n, g, c, _⟩
    · exact .fTuple (sb.th _ _ g rfl)
    · exact .kTuple g c
  | lst g1 g2 => cases h; exact .base (.lst (sb.th _ _ g1 rfl))
  | scr g1 g2 => cases h
  | obj g1 g2 g3 g4 => cases h
  | ref g => cases h
  | exc _ _ _ _ _ => cases h
theorem tyX_now {M : MC} {Z H : Hp} {v : V} {d : D} {T : String} (sb : Sub Z H) (r : Now M Z H v d) (h : tyD d = some T) : TyX M.K H v (.type T) := by
  rcases r with r | ⟨a, vs, xs, rfl, rfl, h1, _⟩
  · exact tyX_of sb r h
  · cases h; exact .base (.lst h1)
/-- isinstance(x, c), c a class of one's own -/
def gIsOwn (c : Str) (d : D) : Option R := match d with
  | .obj c' _ _ => if c' = c then some (.val (.bl true)) else none
  | d => (tyD d).map fun _ => .val (.bl false)
section
variable {X : Cx} {W : WX}
theorem de_isOwn {c : Str} {x : Expr} {s : SE} {p p2 pos : Pos} (IN : IsOwn X.K X.mg c) (hm : X.mg "isinstance" = none) (he : DE W X x s)
    (hg : Gl X "isinstance" := by rfl) (hg2 : Gl X c := by rfl) (hb : bootBuiltins "isinstance" = some (.builtin "isinstance") := by decide +kernel)
    (he1 : starEach [x, .Name c p2] X.env = (false, eval x X.env) :: starEach [.Name c p2] X.env := by rfl) (he2 : starEach [.Name c p2] X.env = (false, eval (.Name c p2) X.env) :: starEach [] X.env := by rfl)
    (hpl : (backTo pos (starEach [.Name c p2] X.env)).any (·.1) = false := by rfl) (hdb : (c == ("__debug__" : Str)) = false := by decide) : DE W X (.Call (.Name "isinstance" p) [x, .Name c p2] [] pos) (vUn (gIsOwn c) s) := by
  obtain ⟨C, hC, cl, s5, s6, s7, s8, sx⟩ := IN.ex
  refine weakE (pe_callB call_isi hg hm hb (pa_cons he (pa_cons (pe_glob (v := V.ref C) (u := .ref C) hg2 hC rfl hdb) pa_nil he2) he1) (by decide) (by decide) he1 hpl) fun σ H Q ⟨Z, env, rep, h⟩ => ⟨Z, env, rep, h.bind.mono fun r e Z1 H1 x1 p v rr => ?_⟩
  split at p
  · rename_i d q
    split at p
    · rename_i b q2
      have now := rr.now x1.rep q
      have no : ∀ T, tyD d = some T → b = .val (.bl false) → ∃ x c_1 t u b_1, [v, V.ref C] = [x, c_1] ∧ ClsV c_1 u ∧ TyX X.K H1 x t ∧ PySem.W.kitOne X.K t u = some b_1 ∧ Q (.bl b_1) H1 := fun T hT hb => by
        subst hb
        exact ⟨v, .ref C, .type T, .ref C, false, rfl, .own C, tyX_now x1.rep.sub now hT, (sx T (tyD_mem hT)).1, p.ok x1.rep _ (.bl false)⟩
      unfold gIsOwn at q2
      split at q2
      · rename_i c' ks ds
        by_cases hc : c' = c
        · rw [if_pos hc] at q2
          cases q2
          subst hc
          rcases now with e3 | ⟨_, _, _, _, z, _⟩
          · cases e3 with
            | obj g1 g2 g3 g4 =>
              rename_i a C' dx vs
              have g2' : X.mg c' = some (.ref C') := g2
              rw [hC] at g2'
              cases g2'
              refine ⟨.ref a, .ref C, .ref C, .ref C, true, rfl, .own C, .base (.ins (x1.rep.sub.th _ _ g1 rfl) cl s5 s6 s7 s8), ?_, p.ok x1.rep _ (.bl true)⟩
              unfold PySem.W.kitOne
              simp
          · cases z
        · rw [if_neg hc] at q2
          cases q2
      · cases hT : tyD d with
        | none => rw [hT] at q2; cases q2
        | some T =>
          rw [hT] at q2
          injection q2 with q2
          exact no T hT q2.symm
    · exact p.elim
  · exact p.elim
end
/-! == and != of an instance with an own __eq__ and anything -/
section
variable {X : Cx} {k : Nat} {C f : Addr} {fd : FuncData} {ps : List Str} {sp : Sp} {pins : List (Addr × Obj)} {s : Shared} {σ : St} {H : Hp} {a : Addr} {y : V} {u : Value}
end
noncomputable instance {c : Str} {d' : D} : Decidable ((tyD d').isSome = true ∨ ∃ ks' ys, d' = .obj c ks' ys) := Classical.propDecidable _
def kCmpA (g : D → D → Option R) (r1 r2 : R) (e : Ev) : Out R := match r1, r2 with
  | .val a, .val b => fin (g a b) e
  | _, _ => .bad
def vCmp (g : D → D → Option R) (s1 s2 : SE) : SE := fun env => (s1 env).bind fun r1 e1 => (s2 e1).bind fun r2 e2 => kCmpA g r1 r2 e2
structure EqA (P : Program) (w : World) (K : PySem.W.Frag) (mg : Str → Option Value) (base : Heap) (k : Nat) (c : Str) (F : FSem) : Prop where
  ex : ∃ C f fd, mg c = some (.ref C) ∧ PySem.W.findIn K (.ref C) "__eq__" = some (some (.ref f)) ∧ PySem.W.isFn K (.ref f) = true ∧ Binds K fd ["self", "other"] [] ∧ FnOk P w K mg base (L2N.CX P w) k f fd ["self", "other"] (spF ⟨K, mg, P, w⟩ 2 F.run)
/-- != is the class's inherited one -/
structure NeA (K : PySem.W.Frag) (mg : Str → Option Value) (c : Str) : Prop where
  ex : ∃ C, mg c = some (.ref C) ∧ PySem.W.findIn K (.ref C) "__ne__" = some (some (.builtin "object.__ne__")) ∧ PySem.W.mroIn K C (.type "object") = some true
section
variable {X : Cx} {W : WX}
end
/-! running -/
@[simp] theorem kCmpA_val {g : D → D → Option R} {a b : D} {e : Ev} : kCmpA g (.val a) (.val b) e = fin (g a b) e := Eq.trans rfl rfl
def kCmp1 (g : D → D → Option R) (s2 : SE) (r1 : R) (e : Ev) : Out R := (s2 e).bind (kCmpA g r1)
@[simp] theorem kCmp1_eq {g : D → D → Option R} {s2 : SE} {r1 : R} {e : Ev} : kCmp1 g s2 r1 e = (s2 e).bind (kCmpA g r1) := Eq.trans rfl rfl
@[simp] theorem vCmp_eq {g : D → D → Option R} {s1 s2 : SE} {e : Ev} : vCmp g s1 s2 e = (s1 e).bind (kCmp1 g s2) := Eq.trans rfl rfl
end DV
/-! x in [y] by an own __eq__ -/
namespace GIN
open PySem PySem.SeqAt
open AutoSeq1 (wpAny_loadPart')
open MeetsSeq MeetsSeq2 MeetsSeq3 SeqRoads2
section
variable {prog : Program} {w : World} {A : Around} {E : Value → Shared → Prop} {s : Shared} {R : Result → Shared → Prop}
end
end GIN
namespace DV
open PySem PySem.Spec L2
section
variable {X : Cx} {k : Nat} {C f : Addr} {fd : FuncData} {ps : List Str} {sp : Sp}
end
/-! as data -/
section
variable {K : PySem.W.Frag} {mg : Str → Option Value} {P : Program} {w : World} {Z H : Hp}
end
def In1P (F : FSem) (d d' : D) (b : Bool) : Prop := ∃ (m m' : Int) (ps ps' : Prs) (e : Ev), d = netD m ps ∧ d' = netD m' ps' ∧ F.run [.val d', .val d] = .ok (.val (.bl b)) e ∧ (m = m' → ps = ps' → b = true)
open Classical in
noncomputable def gIn1 (F : FSem) (d d' : D) : Option R := if h : ∃ b, In1P F d d' b then some (.val (.bl (Classical.choose h))) else none
noncomputable def kIn1 (F : FSem) (r1 r2 : R) (e : Ev) : Out R := match r1, r2 with
  | .val d, .new [d'] => fin (gIn1 F d d') e
  | _, _ => .bad
noncomputable def vIn1 (F : FSem) (s1 s2 : SE) : SE := fun env => (s1 env).bind fun r1 e1 => (s2 e1).bind fun r2 e2 => kIn1 F r1 r2 e2
section
variable {X : Cx} {W : WX}
end
@[simp] theorem kIn1_val {F : FSem} {a b : D} {e : Ev} : kIn1 F (.val a) (.new [b]) e = fin (gIn1 F a b) e := Eq.trans rfl rfl
noncomputable def kIn1a (F : FSem) (s2 : SE) (r1 : R) (e : Ev) : Out R := (s2 e).bind (kIn1 F r1)
@[simp] theorem kIn1a_eq {F : FSem} {s2 : SE} {r1 : R} {e : Ev} : kIn1a F s2 r1 e = (s2 e).bind (kIn1 F r1) := Eq.trans rfl rfl
@[simp] theorem vIn1_eq {F : FSem} {s1 s2 : SE} {e : Ev} : vIn1 F s1 s2 e = (s1 e).bind (kIn1a F s2) := Eq.trans rfl rfl
end DV
namespace DV
open PySem PySem.Spec PyProof.Rows L2 L2N
/-! ### a caught refusal is kept as a thing of the heap -/
theorem laid_here {P : Program} {w : World} {H : Hp} {h : Heap} {a : Addr} {o : HO} (x : HOk P w H h) (hn : H a = none) (new : ObjOk P w (upd H a o) h a o) : HOk P w (upd H a o) h := fun b u e => by
  by_cases hb : b = a
  · rw [hb] at e ⊢
    rw [upd_same] at e
    cases e
    exact new
  · rw [upd_ne hb] at e
    exact (x b u e).stay (fun c v _ q => q) (fun c q => by rw [upd_ne (ne_of_none q hn)]; exact q) fun c xs q => by rw [upd_ne (ne_of_none q hn)]; exact q
theorem takeIn {X : Cx} {pins : List (Addr × Obj)} {σ : L2.St} {H : Hp} {s : Shared} {a : Addr} {o : HO} (I : Inv X pins σ H s) (na : H a = none) (n0 : X.s_0.heap.get? a = none) (nL : a ≠ X.env.locals) (nc : ∀ x c, X.env.cells.lookup x = some c → c ≠ a)
    (np : ∀ p ∈ X.pn ++ pins, p.1 ≠ a) (new : ObjOk X.prog X.w (upd H a o) s.heap a o) : Inv X pins σ (upd H a o) s := by
  have u := I.base
  have z : ∀ {b : Addr} {v : HO}, H b = some v → upd H a o b = some v := fun {b v} q => by rw [upd_ne (ne_of_none q na)]; exact q
  refine ⟨I.ok, I.os, I.bare, ⟨u.keep, u.slot, fun b ob e n hx => ?_, u.there, fun b xs q => z (u.tups b xs q), fun b ob xs q => z (u.frzs b ob xs q), fun b ps q => ?_⟩, I.loc, I.cell, by rw [upd_ne (Ne.symm nL)]; exact I.free, fun x c e => by rw [upd_ne (nc x c e)]; exact I.freeC x c e, fun p hp => ?_, laid_here I.hok na new, I.len⟩
  · rw [upd_ne (fun q => by rw [q, n0] at e; cases e)]
    exact u.free b ob e n hx
  · obtain ⟨m, q⟩ := u.tbls b ps q
    exact ⟨m, z q⟩
  · obtain ⟨p1, p2, p3⟩ := I.pin p hp
    exact ⟨p1, by rw [upd_ne (np p hp)]; exact p2, p3⟩
theorem excO_ok {P : Program} {w : World} {H : Hp} {h : Heap} {a : Addr} {cls : Value} {d : Option Addr} {oe : Obj} {vs : Array Value} (e : h.get? a = some oe) (z : L2N.Zn cls d oe) (hd : oe.data = .fields vs) : ObjOk P w H h a (excO a cls d) :=
  ⟨⟨oe, vs, e, z, hd⟩, ⟨oe, e⟩, fun _ _ ⟨o, v, q, r⟩ k => ⟨o, v, k o q, r⟩⟩
/-- where a suite leaves that kept it: the name of the clause is gone, the refusal stands in the heap -/
def endsK (i : Nat) (a : Addr) (cls : Value) (d : Option Addr) (D : Ends) : Ends :=
  { nx := fun σ' H' => H' a = none → D.nx (σ'.set i none) (upd H' a (excO a cls d)), rt := fun _ _ => False, bk := fun _ _ => False, ct := fun _ _ => False }
def wKeep (K : PySem.W.Frag) (c : Value) (i : Nat) (ts : TSu) (Wout : WX) (D : Ends) : WX := fun cls d σ H =>
  ∃ b, PySem.W.exmOne K cls c = some b ∧ (b = true → ∀ a, H a = none → ts a cls d (endsK i a cls d D) (σ.set i (some (.ref a))) H) ∧ (b = false → Wout cls d σ H)
section
variable {X : Cx} {x n : Str} {c : Value} {i : Nat} {body suite : List Stmt} {b₀ : Stmt} {np pos pos' : Pos} {tb : WX → TS} {ts : TSu} {Wout : WX}
theorem ps_try_keep (hs : X.stack = X.env :: X.outer) (hf : X.env.frame = some X.env.locals) (hN : X.N.Nodup) (hi : X.N[i]? = some n) (hln : X.env.kindOf n = some .local) (hex : X.ex = []) (tk : L2N.Takes X Wout) (hc : Names X x c)
    (hb : ∀ (W : WX) (pn : List (Addr × Obj)) (xe : Value → Shared → Prop), L2N.Takes (X.tr pn xe) W → PassesOwn (model X.prog X.w) X.A X.env xe → PSs (X.tr pn xe) body (tb W))
    (hsu : ∀ (a : Addr) (oe : Obj) (cls : Value) (d : Option Addr) (pn : List (Addr × Obj)), L2N.Zn cls d oe → (∃ vs, oe.data = .fields vs) → PSs (X.suite a ((a, oe) :: pn)) (b₀ :: suite) (ts a cls d)) :
    PS X (.Try body [.ExceptHandler (some (.Name x np)) (some n) (b₀ :: suite) pos'] [] [] pos) (fun D σ H => tb (wKeep X.K c i ts Wout D) D σ H) := by
  refine ⟨fun pins s σ H D I h => wpAny_Try_except ?_⟩
  have ok := I.ok
  have hfr : X.A.frames = some (X.env :: X.outer) := by rw [ok.frames, hs]
  refine wpAny_mono ((hb (wKeep X.K c i ts Wout D) (X.pn ++ pins) (fun e s₁ => wpAny (model X.prog X.w) X.A (noteFrame e X.env) (fun _ s₂ => wpAny (model X.prog X.w) X.A (setFlight e none) (fun _ s₃ =>
    wpAny (model X.prog X.w) X.A (handleBy e X.env [.ExceptHandler (some (.Name x np)) (some n) (b₀ :: suite) pos']) (SP X pins D) X.xe s₃) X.xe s₂) X.xe s₁) (fun u s' xx => ?_) PassesOwn.looking).run [] s σ H D (I.toTry _) h) (fun f s1 hsp => ?_) (fun e s1 he => he)
  · obtain ⟨a, B, sI, pins', σ', H', cls, d, rfl, J', nb, up, sky, na, os, ag, b, hb1, hyes, hno⟩ := xx
    have J : Inv X pins σ' H' sI := J'.ofTry ok
    show wpAny (model X.prog X.w) X.A (noteFrame (.ref a) X.env) _ _ _
    refine Sky.land L2N.Zn.steady hfr hf (by rw [← hs]; exact sky) fun h3 fl3 up3 => ?_
    have J3 : Inv X pins σ' H' { s' with heap := h3 } := J.landed nb fl3.1 (up.trans up3) os ag
    obtain ⟨oe3, vs3, he3, hz3, hd3⟩ := fl3.there
    have nfr : a ∉ frs (X.env :: X.outer) := fun hm => by
      obtain ⟨_, o', e', hnf⟩ := fl3.2.2.1.mem hm
      rw [he3] at e'
      cases e'
      exact hnf _ hd3
    have nL : a ≠ X.env.locals := fun z => nfr (List.mem_filterMap.mpr ⟨X.env, List.mem_cons_self, by rw [hf, z]⟩)
    have nF : a ∉ X.fs := fun hm => by
      obtain ⟨e, he, q⟩ := List.mem_filterMap.mp hm
      exact nfr (List.mem_filterMap.mpr ⟨e, List.mem_cons_of_mem _ he, q⟩)
    -- it is new
    have nI : sI.heap.get? a = none := by
      cases q : sI.heap.get? a with
      | none => rfl
      | some o =>
        have z := nb a o q (by rw [hs]; exact nfr)
        rw [fl3.2.1] at z
        cases z
    have n0 : X.s_0.heap.get? a = none := by
      cases q : X.s_0.heap.get? a with
      | none => rfl
      | some o =>
        obtain ⟨o', z⟩ := J.base.there a o q (by rw [hex]; exact fun z => nomatch z)
        rw [nI] at z
        cases z
    have nP : ∀ p ∈ X.pn ++ pins, p.1 ≠ a := fun p hp z => by
      have := (J.pin p hp).1
      rw [z, nI] at this
      cases this
    have nC : ∀ y c', X.env.cells.lookup y = some c' → c' ≠ a := fun y c' e z => by
      obtain ⟨v, q⟩ := J.cell y c' e
      rw [z] at q
      obtain ⟨o', q', _⟩ := q
      rw [nI] at q'
      cases q'
    have S3 := J3.suite he3 hd3 na nL nF
    have LT : PySem.W.Looks (model X.prog X.w) h3 (typeOf (.ref a)) cls := fun A Q E s k q => wpAny_typeOf_ref (k _ _ he3) (by rw [hz3.1]; exact q)
    refine wpAny_handleBy_cons (codeAny_handlers_test ?_) (by intro q; cases q)
    have test : ∀ {Q E : Value → Shared → Prop}, Q c { s' with heap := h3 } → wpAny (model X.prog X.w) (X.A.mark (some (.ref a))) (eval (.Name x np) X.env) Q E { s' with heap := h3 } := fun {Q E} q => by
      obtain ⟨hg, hdbg, hm | ⟨hm, hv, hnn⟩⟩ := hc
      · exact ld_glob (X := X.suite a ((a, oe3) :: (X.pn ++ pins))) S3 hg hm q hdbg
      · exact ld_blt (X := X.suite a ((a, oe3) :: (X.pn ++ pins))) S3 hg hm hv q hnn hdbg
    refine test ((PySem.W.exm_one (M := model X.prog X.w) J3.kIn LT hb1).here ?_)
    cases b with
    | false =>
      obtain ⟨k1, k2, k3, oe, vs, T, oT, ts', he, hz, hd, h1, hr⟩ := id fl3
      refine wpAny_handleBy_nil ?_
      unfold PySem.passOn
      refine wpAny_bind (wpAny_field he hd h1 ?_)
      rw [if_neg (show ¬ ((Value.ref T == Value.none) = true) from by simp)]
      have fin : wpAny (model X.prog X.w) X.A (setFlight (.ref a) X.env.frame) (fun _ s4 => wpAny (model X.prog X.w) X.A (throw (.ref a) : Sem Flow) (SP X pins D) X.xe s4) X.xe { s' with heap := h3 } := by
        rw [hf]
        exact HandSPX.setFlight_upZ fl3 fun h4 hh4 up4 => wpAny_throw (tk _ _ ⟨a, B, sI, pins, σ', H', cls, d, rfl, J, nb, (up.trans up3).trans up4, .inr (.inr (by rw [hs]; exact hh4)), na, os, ag, hno rfl⟩)
      first
        | exact wpAny_bind (wpAny_pure (wpAny_bind fin))
        | exact wpAny_bind fin
    | true =>
      refine codeAny_handlers_suite_as (HandSPX.lands_againZ fl3 fun h4 fl4 up4 => ?_)
      have J4 : Inv X pins σ' H' { s' with heap := h4 } := J.landed nb fl4.1 ((up.trans up3).trans up4) os ag
      obtain ⟨oe4, vs4, he4, hz4, hd4⟩ := fl4.there
      refine store_ok (X := X.suite a ((a, oe4) :: (X.pn ++ pins))) (v := .ref a) (J4.suite he4 hd4 na nL nF) hN hi (.inl hln) rfl (fun s5 S5 => ?_) (.inr hln)
      refine wpAny_mono ((hsu a oe4 cls d (X.pn ++ pins) hz4 ⟨_, hd4⟩).run [] s5 _ H' _ S5 (hyes rfl a na)) (fun f s6 hsp => ?_) (fun _ _ z => False.elim z)
      cases f with
      | ret u =>
        obtain ⟨v6, σ6, H6, S6, r6, q6⟩ := hsp
        exact q6.elim
      | brk =>
        obtain ⟨σ6, H6, S6, q6⟩ := hsp
        exact q6.elim
      | cont =>
        obtain ⟨σ6, H6, S6, q6⟩ := hsp
        exact q6.elim
      | next =>
        obtain ⟨σ6, H6, S6, q6⟩ := hsp
        refine gone_ok (X := X.suite a ((a, oe4) :: (X.pn ++ pins))) S6 hN hi hln fun s7 S7 => ?_
        have pin := S7.pin (a, oe4) (List.mem_append_left _ List.mem_cons_self)
        have J7 : Inv X pins (σ6.set i none) H6 s7 := S7.unsuite ok
        exact ⟨_, _, takeIn J7 pin.2.1 n0 nL nC nP (excO_ok pin.1 hz4 hd4), q6 pin.2.1⟩
  · cases f with
    | ret u =>
      obtain ⟨v, σ', H', J', r, q⟩ := hsp
      exact ⟨v, σ', H', J'.ofTry ok, r, q⟩
    | next =>
      obtain ⟨σ', H', J', q⟩ := hsp
      exact wpAny_execs_nil ⟨σ', H', J'.ofTry ok, q⟩
    | brk =>
      obtain ⟨σ', H', J', q⟩ := hsp
      exact ⟨σ', H', J'.ofTry ok, q⟩
    | cont =>
      obtain ⟨σ', H', J', q⟩ := hsp
      exact ⟨σ', H', J'.ofTry ok, q⟩
end
/-! ### try: body / except C as n: held = n; k = (what the suite reads of it) -/
def kHeld3 (i k : Nat) (dv : D) (e1 : Ev) : Out Fl := opt (stv k (.val dv) e1) fun e2 => if isHole e2[i]? then .ok .nx e2 else .bad
def kHeld2 (i j k : Nat) (x : Exn) (e : Ev) (dv : D) : Out Fl := opt (stv j (.val (.exc x.c x.ks x.ds)) e) (kHeld3 i k dv)
def kHeld (i j k : Nat) (tbl : List (Str × Bool)) (f : XF) (o : Out Fl) : Out Fl := match o with
  | .exn x e => match tbl.lookup x.c with
    | some true => if isHole e[i]? then opt (f x) (kHeld2 i j k x e) else .bad
    | some false => .exn x e
    | none => .bad
  | o => o
def sHeld (i j k : Nat) (tbl : List (Str × Bool)) (b : SS) (f : XF) : SS := fun env => kHeld i j k tbl f (b env)
theorem opt_someS {α : Type} {o : Option α} {g : α → Out Fl} {M : MC} {W : WX} {Z H : Hp} {env : Ev} {σ : SV} {D : Ends} (h : PostS M W Z H env σ (opt o g) D) : ∃ u, o = some u ∧ PostS M W Z H env σ (g u) D := by
  cases o with
  | none => exact h.elim
  | some u => exact ⟨u, rfl, h⟩
section
variable {X : Cx} {W : WX} {c n nj nk : Str} {i : Nat} {tbl : List (Str × Bool)} {body : List Stmt} {np pos pos' p1 p2 p3 p4 p5 : Pos} {b : SS} {ex : Expr} {f : XF}
theorem ds_try_held (i j k : Nat) (hij : j ≠ i) (T : Catch X.K X.mg c tbl) (nd : X.N.Nodup) (tk : L2N.Takes X W)
    (hb : ∀ (W' : WX) (pn : List (Addr × Obj)) (xe : Value → Shared → Prop), L2N.Takes (X.tr pn xe) W' → PassesOwn (model X.prog X.w) X.A X.env xe → DSs W' (X.tr pn xe) body b) (he : VX X (some i) ex f)
    (hn : ∀ (a : Addr) (oe : Obj) (pn : List (Addr × Obj)), PE (X.suite a ((a, oe) :: pn)) (.Name n p2) (tVar i))
    (hs : X.stack = X.env :: X.outer := by rfl) (hf : X.env.frame = some X.env.locals := by rfl) (hi : X.N[i]? = some n := by rfl) (hln : X.env.kindOf n = some .local := by rfl) (hg : Gl X c := by rfl) (hdb : (c == ("__debug__" : Str)) = false := by decide) (hex : X.ex = [] := by rfl)
    (hj : X.N[j]? = some nj := by rfl) (hk : X.N[k]? = some nk := by rfl) (hxj : L2.Loc X.env.scope nj := by first | exact Or.inl rfl | exact Or.inr rfl) (hxk : L2.Loc X.env.scope nk := by first | exact Or.inl rfl | exact Or.inr rfl)
    (hsj : swapsWith (.Name n p2) (some (.Name nj p1)) p3.line X.env = pure false := by rfl) (hsk : swapsWith ex (some (.Name nk p4)) p5.line X.env = pure false := by rfl)
    (hfj : X.fn nj = true ∨ X.env.scope.names.lookup nj = some .local := by first | exact .inl rfl | exact .inr rfl | assumption) (hfk : X.fn nk = true ∨ X.env.scope.names.lookup nk = some .local := by first | exact .inl rfl | exact .inr rfl | assumption) :
    DS W X (.Try body [.ExceptHandler (some (.Name c np)) (some n) [.Assign [.Name nj p1] (.Name n p2) p3, .Assign [.Name nk p4] ex p5] pos'] [] [] pos) (sHeld i j k tbl b f) := by
  obtain ⟨Ch, hm, ht⟩ := T.ex
  refine weakS (ps_try_keep (X := X) (x := c) (c := .ref Ch) (i := i) (tb := fun W' => tS (mc X) W' b) (ts := fun a cls d => tSeq (tAsg (tVar i) (gName j)) (tAsg (tVx (mc X) (some i) a cls d f) (gName k))) (Wout := W) hs hf nd hi hln hex tk ⟨hg, hdb, .inl hm⟩ hb
    (fun a oe cls d pn hz hfl => pss_cons (ps_set (X := X.suite a ((a, oe) :: pn)) (i := j) nd hj hxj (hn a oe pn) hsj hfj) (pss_one (ps_set (X := X.suite a ((a, oe) :: pn)) (i := k) nd hk hxk (he a oe cls d pn hz hfl) hsk hfk)))) fun D σ H ⟨Z, env, rep, h⟩ => ?_
  refine ⟨Z, env, rep, ?_⟩
  have h : PostS (mc X) W Z H env σ (kHeld i j k tbl f (b env)) D := h
  cases q : b env with
  | bad => rw [q] at h; exact h.elim
  | ok f e => rw [q] at h; exact try_okp h
  | exn x e =>
    rw [q] at h
    intro cv d σ' Z' H' a1 hx
    unfold kHeld at h
    simp only at h
    have hx0 := hx
    obtain ⟨C, g1, g2, g3⟩ := hx
    have one : ∀ bb, tbl.lookup x.c = some bb → PySem.W.exmOne X.K cv (.ref Ch) = some bb := fun bb q => by
      obtain ⟨Cx, m1, m2⟩ := ht _ _ q
      have g2' : X.mg x.c = some (.ref C) := g2
      rw [m1] at g2'
      cases g2'
      rw [g1]
      exact m2
    split at h
    · rename_i q1
      split at h
      · rename_i q2
        refine ⟨true, one _ q1, fun _ a hna => ?_, fun z => by cases z⟩
        have ho : e[i]? = some .hole := isHole_iff q2
        obtain ⟨dv, hd, h⟩ := opt_someS h
        unfold kHeld2 at h
        obtain ⟨e1, hs1, h⟩ := opt_someS h
        unfold kHeld3 at h
        obtain ⟨e2, hs2, h⟩ := opt_someS h
        split at h
        · rename_i q3
          have ho2 : e2[i]? = some .hole := isHole_iff q3
          have hlt : i < σ'.length := by rw [← a1.rep.len]; exact (List.getElem?_eq_some_iff.mp ho).1
          refine ⟨.ref a, List.getElem?_set_self hlt, ?_⟩
          refine ⟨x, dv, Z', hd, ⟨a1.rep.sub, fun i' hi' => ?_, hx0⟩, fun Z2 H2 v g r => ?_⟩
          · cases hi'
            rw [List.getElem?_set_ne hij]
            exact List.getElem?_set_self hlt
          · intro na
            subst g1
            have A2 := a1.trans (a1.rep.grow g)
            have gr := Grow.frz (o := excO a (.ref C) d) g.sub' na
            have A3 := A2.trans (A2.rep.grow gr)
            have E : Rp (mc X) (upd Z2 a (excO a (.ref C) d)) (.ref a) (.exc x.c x.ks x.ds) := by
              rcases g3 with ⟨f1, f2, f3⟩ | ⟨dd, vs, f1, f2, f3, f4⟩
              · rw [f2, f3]
                exact .exc (vs := []) upd_same g2 (.inl ⟨f1, rfl⟩) rfl .nil
              · exact .exc upd_same g2 (.inr ⟨dd, f1, gr.sub _ _ (g.sub _ _ f2)⟩) f3 (f4.mono (g.sub.trans gr.sub))
            have R3 := A3.rep.hole (u := some (.ref a)) ho
            obtain ⟨Z4, B1⟩ := stv_ok (H := upd H2 a (excO a (.ref C) d)) (.refl R3) (show RR (mc X) _ _ e _ _ (.ref a) (.val (.exc x.c x.ks x.ds)) from E) hs1
            obtain ⟨Z5, B2⟩ := stv_ok (H := upd H2 a (excO a (.ref C) d)) (.refl B1.rep) (show RR (mc X) _ _ e1 _ _ v (.val dv) from r.mono (gr.sub.trans B1.sub)) hs2
            exact h _ _ _ (A3.trans (Aft.hole ho ho2 (B1.trans B2)))
        · exact h.elim
      · exact h.elim
    · rename_i q1
      exact ⟨false, one _ q1, fun z => (by cases z), fun _ => h cv d σ' Z' H' a1 hx0⟩
    · exact h.elim
end
end DV
namespace DV
open PySem PySem.Spec PyProof.Rows L2 L2N
/-! ### a field of a refusal that is kept -/
def tXfv (K : PySem.W.Frag) (n : Str) (te : TE) : TE := fun σ H Q => te σ H fun x H1 => ∃ (a C dd : Addr) (fs : List (Str × V)) (v : V), x = .ref a ∧ XfC K C ∧ PySem.W.findIn K (.ref C) n = some none ∧
  H1 a = some (excO a (.ref C) (some dd)) ∧ H1 dd = some (.xd fs) ∧ fs.lookup n = some v ∧ Q v H1
theorem pe_xfv {X : Cx} {e : Expr} {te : TE} {pos : Pos} {n : Str} (he : PE X e te) (hb : attributeBase e n X.env (eval e X.env) = eval e X.env := by rfl) : PE X (.Attribute e n pos) (tXfv X.K n te) := by
  refine ⟨fun pins s σ H Q I h => ?_⟩
  refine attr_of hb (thn (he.run pins s σ H _ I h) fun u s1 hh => ?_)
  obtain ⟨x, H1, I1, rx, a, C, dd, fs, v, ex, T, hno, ea, ed, l, q⟩ := hh
  subst ex
  obtain rfl : u = Value.ref a := rx
  have hx : ObjOk X.prog X.w H1 s1.heap dd (.xd fs) := I1.hok dd _ ed
  have ho0 := I1.hok a _ ea
  obtain ⟨⟨oe, vs, ha, hz, hd⟩, _⟩ := ho0
  obtain ⟨mA, hns, hr⟩ := hx
  obtain ⟨od, ho, hl⟩ := lookIn_ns hns
  obtain ⟨u, hu, ru⟩ := RelO.some_of (v := v) (o := mA n) (by rw [← l]; exact hr n)
  have J : PySem.W.InstAt s1.heap a oe C (some od) := ⟨ha, hz.1, by unfold PySem.W.notCls; rw [hd] <;> rfl, by rw [hz.2.1]; exact ho⟩
  exact HandSPX.exc_get I1.kIn J T.ga T.gg T.exC (PySem.W.findObj_own T.hdC hno rfl (by rw [hl, hu])) (handed_of ru) ⟨v, H1, I1.tok _, ru, q⟩
theorem optP {M : MC} {W : WX} {Z H : Hp} {env : Ev} {σ : SV} {α β : Type} {o : Option α} {k : α → Out β} {G : β → Ev → Hp → Hp → Prop} (h : Post M W Z H env σ (opt o k) G) : ∃ a, o = some a ∧ Post M W Z H env σ (k a) G := by
  cases o with
  | none => exact h.elim
  | some a => exact ⟨a, rfl, h⟩
def fldX (tbl : List Str) (k : Str) (d : D) : Option D := match d with
  | .exc c ks ds => if c ∈ tbl then (ks.zip ds).lookup k else none
  | _ => none
def kFldX2 (tbl : List Str) (k : Str) (e : Ev) (d : D) : Out R := opt (fldX tbl k d) fun v => .ok (.val v) e
def kFldX (tbl : List Str) (k : Str) (r : R) (e : Ev) : Out R := opt (r.read e) (kFldX2 tbl k e)
def vFldX (tbl : List Str) (k : Str) (s : SE) : SE := fun env => (s env).bind (kFldX tbl k)
section
variable {X : Cx} {W : WX} {e : Expr} {s : SE} {pos : Pos}
theorem de_fldX {tbl : List Str} {k : Str} (T : ∀ c ∈ tbl, ErrF X.K X.mg c k) (he : DE W X e s) (hb : attributeBase e k X.env (eval e X.env) = eval e X.env := by rfl) : DE W X (.Attribute e k pos) (vFldX tbl k s) := by
  refine weakE (pe_xfv he hb) fun σ H Q ⟨Z, env, rep, h⟩ => ⟨Z, env, rep, (Post.bind h).mono fun r e1 Z1 H1 x1 p v rr => ?_⟩
  unfold kFldX at p
  obtain ⟨d, q, p⟩ := optP p
  unfold kFldX2 at p
  obtain ⟨w, q2, p2⟩ := optP p
  have nw := rr.now x1.rep q
  unfold fldX at q2
  split at q2
  · rename_i c ks ds
    split at q2
    · rename_i hc
      rcases nw with nw | ⟨_, _, _, _, z, _⟩
      · cases nw with
        | exc f1 f2 f3 f4 f5 =>
          obtain ⟨C, m1, t1, t2⟩ := T _ hc
          have m1' : (mc X).mg c = some (.ref C) := m1
          rw [m1'] at f2
          cases f2
          rcases f3 with ⟨_, z⟩ | ⟨dd, g1, g2⟩
          · rw [z] at q2; cases q2
          · subst g1
            obtain ⟨u, l1, l2⟩ := lookup_rps f4 f5 q2
            exact ⟨_, _, dd, _, u, rfl, t1, t2, x1.rep.sub.th _ _ f1 rfl, x1.rep.sub.th _ _ g2 rfl, l1, p2.ok x1.rep _ l2⟩
      · cases z
    · cases q2
  · cases q2
end
end DV
set_option maxHeartbeats 2000000
namespace DV
open PySem HandSPX Builtin Builtin.ObjectAttr
/-! ### C(f = v, ..) of a refusal's class with an __init__ of its own -/
section
variable {M : Model} {A : Around} {E : Value → Shared → Prop} {h : Heap} {g : Array GenState} {d : Drawn} {t : Nat} {os : OsState}
variable {nm q : Str} {C N : Addr} {bs bm bmB : List Value} {hdct : Bool} {sn : List Str} {sub : List Value} {ab : Bool} {col : Option Bool} {dd : Option Addr} {k0 k1 k2 k3 k5 : Option Value} {B newId initId : String}
theorem check_new_kw (F : ExcBaseFacts B newId initId bmB) (hT : ∀ X : String, bm.contains (.type X) = bmB.contains (.type X)) {kw : List (Str × Value)} {Q : Unit → Shared → Prop}
    (hC : h.get? C = some (excClassObj nm q C N bs bm hdct sn sub ab col dd k0 k1 k2 k3 k5 newId)) (hq : Q () ⟨h, g, d, t, os⟩) : wpAny M A (checkBuiltinCall newId ⟨[.ref C], kw⟩) Q E ⟨h, g, d, t, os⟩ := by
  have hcont : (Value.ref C :: bm).contains (.type B) = true := by rw [List.contains_cons, hT, F.hasB, Bool.or_true]
  have hstar := F.noStar
  simp only [checkBuiltinCall, F.newKind, F.newSplit, F.newRow]
  repeat (first | refine wpAny_loadPart_at hC ?_ | (refine wpAny_isSubtype_exc hC ?_; rw [hcont]) | refine wpAny_staticBase_exc hC ?_ | refine wpAny_madeBy_exc hC ?_ | simp only [bne_self_eq_false, Bool.false_eq_true, if_false] | wp_step)
  exact hq
end
section
variable {prog : Program} {w : World} {A : Around} {E : Value → Shared → Prop} {R : Result → Shared → Prop} {h : Heap} {g : Array GenState} {d : Drawn} {t : Nat} {os : OsState}
variable {nm q : Str} {C N : Addr} {bs bm bmB : List Value} {hdct : Bool} {sn : List Str} {sub : List Value} {ab : Bool} {col : Option Bool} {dd : Option Addr} {k0 k1 k2 k3 k5 : Option Value} {B newId initId : String}
theorem new_kw (F : ExcBaseFacts B newId initId bmB) (hT : ∀ X : String, bm.contains (.type X) = bmB.contains (.type X)) {kw : List (Str × Value)}
    (hC : h.get? C = some (excClassObj nm q C N bs bm hdct sn sub ab col dd k0 k1 k2 k3 k5 newId))
    (hq : R (.ok (.ret (.ref (h.objs.size + 1)))) ⟨(h.push { cls := .type "tuple", data := .seq ([] : List Value).toArray }).push
      { cls := .ref C, data := .fields #[.ref h.objs.size, .none, .none, .none, .bool false, .none] }, g, d, t, os⟩) :
    codeAny (model prog w) A (.builtin newId ⟨[.ref C], kw⟩) R ⟨h, g, d, t, os⟩ := by
  have hends := F.ends
  have hcB : (Value.ref C :: bm).contains (.type B) = true := by rw [List.contains_cons, hT, F.hasB, Bool.or_true]
  have hcA : (Value.ref C :: bm).contains (.type "AttributeError") = false := by rw [List.contains_cons, hT, F.noAttr]; rfl
  have hcN : (Value.ref C :: bm).contains (.type "NameError") = false := by rw [List.contains_cons, hT, F.noName]; rfl
  refine codeAny_builtinAt F.entry ?_
  unfold Builtin.«BaseException.__new__»
  refine wpAt_bind ?_
  show wpAt _ _ _ (stack >>= _) _ _ _
  refine wpAt_bind (wpAt_stack fun p below => wpAt_of_wpAny ?_)
  wp_walk
  refine wpAt_of_wpAny ?_
  rw [F.owner]
  repeat (first | with_reducible refine wpAny_madeHere_exc F.canon hC ?_ | with_reducible refine wpAny_loadPart_at hC ?_ | (with_reducible refine wpAny_isSubtype_exc hC ?_; first | rw [hcB] | rw [hcA] | rw [hcN]) | wp_step)
  show R _ _
  rw [Heap.size_push]
  exact hq
theorem type_call_kw (F : ExcBaseFacts B newId initId bmB) (hT : ∀ X : String, bm.contains (.type X) = bmB.contains (.type X)) {kw : List (Str × Value)} {fI : Addr} {Q : Fin → Shared → Prop}
    (hC : h.get? C = some (excClassObj nm q C N bs bm hdct sn sub ab col dd k0 k1 k2 k3 k5 newId))
    (hi : W.Looks (model prog w) h (typeLookup (.ref C) "__init__") (some (.ref fI))) (hb : ∀ self, W.Looks (model prog w) h (bindSpecial (.ref fI) self) (.ref fI, [self]))
    (hq : codeAny (model prog w) A (.call (.ref fI) ⟨[.ref (h.objs.size + 1)], kw⟩)
      (fun r s' => match r with | .ok (.ret v) => v = .none ∧ Q (.done (.ret (.ref (h.objs.size + 1)))) s' | .ok _ => False | .error e => E e s')
      ⟨(h.push (W.kdv_tup [])).push (HandSPX.excO C h.objs.size), g, d, t, os⟩) :
    wpAny (model prog w) A (Builtin.«type.__call__» ⟨[.ref C], kw⟩) Q E ⟨h, g, d, t, os⟩ := by
  repeat (first | with_reducible refine wpAny_loadPart_at hC ?_ | with_reducible refine wpAny_madeBy_exc hC ?_ | wp_step)
  refine codeAny_call_builtin_code (Code.quiet_builtin _ F.quiet) (check_new_kw F hT hC ?_)
  refine new_kw F hT hC ?_
  show wpAny _ _ _ _ _ _
  have k : ∀ b o, h.get? b = some o → ((h.push (W.kdv_tup [])).push (HandSPX.excO C h.objs.size)).get? b = some o := fun b o e => Heap.get?_push_of_some _ (Heap.get?_push_of_some _ e)
  have hC₁ := k _ _ hC
  have hget : ((h.push (W.kdv_tup [])).push (HandSPX.excO C h.objs.size)).get? (h.objs.size + 1) = some (HandSPX.excO C h.objs.size) := by heap_get
  have hcC : (Value.ref C :: bm).contains (.ref C) = true := by simp
  have i1 := hi.keeps k
  have b1 := (hb (.ref (h.objs.size + 1))).keeps k
  unfold isInstance
  repeat (first | with_reducible refine wpAny_loadPart_at hget ?_ | (with_reducible refine wpAny_isSubtype_exc hC₁ ?_; rw [hcC]) | wp_step)
  show wpAny _ _ (typeLookup (.ref C) _) _ _ _
  refine i1.at ?_
  refine wpAny_holding (wpAny_bind (b1.at ?_))
  refine wpAny_bind (wpAny_call (codeAny_mono hq fun r s' z => ?_))
  rcases r with e | (v | _ | _ | _) <;> first | exact z | exact z.elim | skip
  obtain ⟨rfl, z⟩ := z
  first
    | exact wpAny_pure (wpAny_pure z)
    | (wp_walk; exact z)
theorem call_kw (F : ExcBaseFacts B newId initId bmB) (hT : ∀ X : String, bm.contains (.type X) = bmB.contains (.type X)) {kw : List (Str × Value)} {fI : Addr}
    (hC : h.get? C = some (excClassObj nm q C N bs bm hdct sn sub ab col dd k0 k1 k2 k3 k5 newId))
    (hi : W.Looks (model prog w) h (typeLookup (.ref C) "__init__") (some (.ref fI))) (hb : ∀ self, W.Looks (model prog w) h (bindSpecial (.ref fI) self) (.ref fI, [self]))
    (hq : codeAny (model prog w) (A.under (.builtin "type.__call__" ⟨[.ref C], kw⟩)) (.call (.ref fI) ⟨[.ref (h.objs.size + 1)], kw⟩) (W.InitBack (h.objs.size + 1) R)
      ⟨(h.push (W.kdv_tup [])).push (HandSPX.excO C h.objs.size), g, d, t, os⟩) :
    codeAny (model prog w) A (.call (.ref C) ⟨[], kw⟩) R ⟨h, g, d, t, os⟩ := by
  have f1 := tc_lookup
  have f2 := tc_bind (.ref C)
  have hTy : (⟨h, g, d, t, os⟩ : Shared).TypeIs (.ref C) "type" := ⟨_, hC, rfl⟩
  refine codeAny_of_tree ?_
  show wpAny _ _ (callAny (.ref C) _) _ _ _
  repeat (any_goals (first | assumption | with_reducible refine wpAny_loadPart_at hC ?_ | wp_step))
  refine ⟨rfl, ?_⟩
  refine codeAny_call_builtin_at (Code.quiet_builtin _ (by decide +kernel)) entry_typeCall (wpAny_check_type_call_sub hC (type_call_kw F hT hC hi hb ?_))
  refine codeAny_mono hq fun r s' z => ?_
  rcases r with e | (v | _ | _ | _) <;> exact z
end
end DV
set_option maxHeartbeats 2000000
namespace DV
open PySem PySem.Spec PyProof.Rows L2 L2N
/-! ### raise C(f = v, ..) -/
def pick {α : Type} (ix : List Nat) (ws : List α) : List α := ix.filterMap fun i => ws[i]?
theorem pick_cons {α : Type} {i : Nat} {ix : List Nat} {ws : List α} : pick (i :: ix) ws = (match ws[i]? with | some w => w :: pick ix ws | none => pick ix ws) := by
  unfold pick
  rw [List.filterMap_cons]
  cases ws[i]? <;> rfl
theorem pick_rps {M : MC} {Z : Hp} {vs : List V} {ds : List D} (h : Rps M Z vs ds) : ∀ ix : List Nat, Rps M Z (pick ix vs) (pick ix ds)
  | [] => .nil
  | i :: ix => by
    rw [pick_cons, pick_cons]
    cases q : vs[i]? with
    | none =>
      have : ds[i]? = none := List.getElem?_eq_none (by rw [← h.length]; exact List.getElem?_eq_none_iff.mp q)
      rw [this]
      exact pick_rps h ix
    | some v =>
      obtain ⟨d, e, r⟩ := h.getV q
      rw [e]
      exact .cons r (pick_rps h ix)
theorem pvals_get : ∀ {vs : List V} {us : List Value}, Vals vs us → ∀ i : Nat, (vs[i]? = none ∧ us[i]? = none) ∨ ∃ v u, vs[i]? = some v ∧ us[i]? = some u ∧ RelV v u
  | _, _, .nil, i => .inl ⟨by simp, by simp⟩
  | _, _, .cons r rs, 0 => .inr ⟨_, _, rfl, rfl, r⟩
  | _, _, .cons r rs, i + 1 => by simpa using pvals_get rs i
theorem pick_vals {vs : List V} {us : List Value} (h : Vals vs us) : ∀ ix : List Nat, Vals (pick ix vs) (pick ix us)
  | [] => .nil
  | i :: ix => by
    rw [pick_cons, pick_cons]
    rcases pvals_get h i with ⟨a, b⟩ | ⟨v, u, a, b, r⟩
    · rw [a, b]; exact pick_vals h ix
    · rw [a, b]; exact .cons r (pick_vals h ix)
def tMkOK (C : Addr) (sp : Sp) (m : Nat) (ix : List Nat) (ta : TA) : L2.St → Hp → XK → Prop := fun σ H Q => ta σ H fun zs H1 => zs.length = m ∧ ∀ a, H1 a = none → sp (.ref a :: pick ix zs) (upd H1 a (exo a C none))
  (fun v H2 => v = .non ∧ ∃ (d : Addr) (fs : List (Str × V)), H2 a = some (exo a C (some d)) ∧ H2 d = some (exd d fs) ∧ H1 d = none ∧ Q (.ref C) (some d) (upd (del H2 a) d (.xd fs))) (fun _ _ _ => False)
/-- C(k = v, ..), C a class with an __init__ of its own: what is made has no context -/
theorem pmk_madeK {X : Cx} {ta : TA} {p pos : Pos} {x : Str} {C fI : Addr} {k : Nat} {fd : FuncData} {ps ks : List Str} {kws : List Keyword} {sp : Sp} {ix : List Nat} (T : OexC X.K C) (iC : PySem.W.findIn X.K (.ref C) "__init__" = some (some (.ref fI))) (tI : PySem.W.typeIn X.K (.ref fI) = some (.type "function"))
    (F1 : FnOk X.prog X.w X.K X.mg X.base (L2N.CX X.prog X.w) k fI fd ps sp) (hr : Room (k + 1) X.A) (hb : KBn X.K fd ps 1 ks (fun us ws => us ++ pick ix ws) (fun us ws => us ++ pick ix ws)) (hg : Gl X x) (hm : X.mg x = some (.ref C)) (ha : PK X kws ta)
    (hall : (backToKw pos (keywordEach kws X.env)).all (·.1.isSome) = true := by rfl) (hks : (backToKw pos (keywordEach kws X.env)).filterMap (·.1) = ks := by rfl) (hdb : (x == ("__debug__" : Str)) = false := by decide)
    (hpl : ((backTo pos (starEach [] X.env)).any (·.1) || (backToKw pos (keywordEach kws X.env)).any (·.1.isNone)) = false := by rfl) :
    L2N.PMk X (.Call (.Name x p) [] kws pos) (tMkOK C sp ks.length ix ta) := by
  intro pins s σ H Q I h
  obtain ⟨_, _, _, _, bm, _, _, _, _, _, _, _, _, _, _, hC, hbm⟩ := T.cls
  refine wpAny_Call_Name_kw (ld_glob I hg hm ?_ hdb)
  refine PySem.W.callWith_KW0 (h₀ := X.base) I.ok.mod.kin T.kC hall (thn (ha.run pos pins s σ H _ I h) fun ws s1 ⟨zs, H1, I1, r1, hz, q1⟩ => ⟨I1.kIn, ?_⟩) hpl
  rw [hks]
  show wpAny _ _ (call (.ref C) [] (ks.zip ws)) _ _ _
  obtain ⟨hp, g, dr, tk, os⟩ := s1
  generalize hn : hp.objs.size + 1 = n
  have hle : hp.objs.size ≤ n := by omega
  have hq := q1 n (I1.hok.fresh hle)
  have kk : ∀ b o, hp.get? b = some o → ((hp.push (PySem.W.kdv_tup [])).push (PySem.HandSPX.excO C hp.objs.size)).get? b = some o := fun b o e => Heap.get?_push_of_some _ (Heap.get?_push_of_some _ e)
  have hget : ((hp.push (PySem.W.kdv_tup [])).push (PySem.HandSPX.excO C hp.objs.size)).get? n = some (PySem.HandSPX.excO C hp.objs.size) := by rw [← hn]; heap_get
  have I2 := I1.laid (t' := tk) (a := n) (o := exo n C none) kk hle (exo_ok hget)
  have r2 : Vals (V.ref n :: pick ix zs) (Value.ref n :: pick ix ws) := .cons rfl (pick_vals r1 ix)
  have b2 := hb.to _ [Value.ref n] ws I2.kIn rfl (r1.length.symm.trans hz)
  refine wpAny_call (call_kw F.excBase_ValueError (fun Y => PySem.HandSPX.refsVE_contains Y bm hbm) (I1.kIn _ _ hC) (PySem.W.looks_findIn I1.kIn iC) (fun self => PySem.W.bind_fn I1.kIn self tI) ?_)
  rw [hn]
  refine codeAny_mono (F1.run _ X.stack _ _ ⟨[Value.ref n], ks.zip ws⟩ (Value.ref n :: pick ix ws) _ _ (fun _ _ _ => False) (hr.make C [] (ks.zip ws)) (I2.env0.make C [] (ks.zip ws)) b2 r2 hq) fun r s' hq' => ?_
  cases r with
  | error er =>
    obtain ⟨a, B, H', cls, d, _, _, _, _, _, _, _, z⟩ := hq'
    exact z.elim
  | ok fl =>
    cases fl with
    | ret u =>
      obtain ⟨v, H2, os2, bare2, un2, hok2, rv, ev, d, fs, ea, ed, hd1, q2⟩ := hq'
      subst ev
      obtain ⟨h2, g2, d2, t2, os'⟩ := s'
      obtain ⟨t0, G, J, kG, ge, hoe, na⟩ := mk_end0 (d2 := d2) (t2 := t2) I1 hle kk un2 hok2 os2 bare2 ea ed hd1
      exact ⟨rv, n, _, _, ⟨G, g2, d2, t2, os'⟩, _, .ref C, some d, rfl, J, kG, ge, hoe, ⟨rfl, rfl, fun vs hv => by cases hv; rfl⟩, rfl, rfl, na, rfl, bare2, raises_own T.exC T.tyC, q2⟩
    | next => exact False.elim hq'
    | brk => exact False.elim hq'
    | cont => exact False.elim hq'
/-- a refusal's class can be made by names -/
structure ErrOkK (P : Program) (w : World) (K : PySem.W.Frag) (mg : Str → Option Value) (base : Heap) (k : Nat) (c : Str) (ks kw : List Str) (ix : List Nat) : Prop where
  ex : ∃ C f fd, ErrC K mg c ks C f ∧ KBn K fd ("self" :: ks) 1 kw (fun us ws => us ++ pick ix ws) (fun us ws => us ++ pick ix ws) ∧ FnOk P w K mg base (L2N.CX P w) k f fd ("self" :: ks) (spErr K C ks)
def kRaiseK (c : Str) (ks : List Str) (m : Nat) (ix : List Nat) (rs : List R) (e : Ev) : Out Fl := match valsOf rs with
  | some ds => if ds.length = m ∧ (pick ix ds).length = ks.length then .exn ⟨c, ks.reverse, (pick ix ds).reverse⟩ e else .bad
  | none => .bad
def sRaiseK (c : Str) (ks : List Str) (m : Nat) (ix : List Nat) (t : SL) : SS := fun env => (t env).bind (kRaiseK c ks m ix)
def DK (W : WX) (X : Cx) (kws : List Keyword) (f : SL) : Prop := PK X kws (tL (mc X) W f)
section
variable {X : Cx} {W : WX} {k : Nat} {c : Str} {ks kw : List Str} {ix : List Nat} {p pos pos' kpos : Pos} {e : Expr} {kws : List Keyword} {s : SE} {t : SL} {nm : Option Str}
theorem weakK {t t' : TA} (p : PK X kws t) (h : ∀ σ H Q, t' σ H Q → t σ H Q) : PK X kws t' := ⟨fun po pins s σ H Q I q => p.run po pins s σ H Q I (h σ H Q q)⟩
theorem dk_nil : DK W X [] vNil := weakK pk_nil fun _ _ _ ⟨_, _, r, h⟩ => h _ _ (.refl r) [] trivial
theorem dk_cons (ha : DE W X e s) (hr : DK W X kws t) : DK W X (⟨nm, e, kpos⟩ :: kws) (vCons s t) := weakK (pk_cons ha hr) fun _ _ _ h => cons_ok h
theorem ds_raiseK {m : Nat} (G : ErrOkK X.prog X.w X.K X.mg X.base k c ks kw ix) (hr : Room (k + 1) X.A) (tk : L2N.Takes X W) (ha : DK W X kws t) (hmm : kw.length = m := by rfl)
    (hks : (backToKw pos (keywordEach kws X.env)).filterMap (·.1) = kw := by rfl) (hall : (backToKw pos (keywordEach kws X.env)).all (·.1.isSome) = true := by rfl)
    (hc : X.calm = true := by rfl) (hg : Gl X c := by rfl) (hdb : (c == ("__debug__" : Str)) = false := by decide) (hpl : ((backTo pos (starEach [] X.env)).any (·.1) || (backToKw pos (keywordEach kws X.env)).any (·.1.isNone)) = false := by rfl) :
    DS W X (.Raise (some (.Call (.Name c p) [] kws pos)) none pos') (sRaiseK c ks m ix t) := by
  subst hmm
  obtain ⟨C, f, fd, E, hb, ok⟩ := G.ex
  refine weakS (L2N.ps_raise hc tk (pmk_madeK E.oex E.init E.fn ok hr hb hg E.mg ha hall hks hdb hpl)) fun D σ H ⟨Z, env, rep, h⟩ => ?_
  have h : PostS (mc X) W Z H env σ ((t env).bind (kRaiseK c ks kw.length ix)) D := h
  refine ⟨Z, env, rep, ?_⟩
  cases q : t env with
  | bad => rw [q] at h; exact h.elim
  | exn x e1 =>
    rw [q] at h
    exact fun cv d Z1 H1 a1 hx => h cv d σ Z1 H1 a1 hx
  | ok rs e1 =>
    rw [q] at h
    intro Z1 H1 a1 vs rr
    have h : PostS (mc X) W Z H env σ (kRaiseK c ks kw.length ix rs e1) D := h
    unfold kRaiseK at h
    cases hv : valsOf rs with
    | none => rw [hv] at h; exact h.elim
    | some ds =>
      rw [hv] at h
      simp only at h
      by_cases hl : ds.length = kw.length ∧ (pick ix ds).length = ks.length
      · rw [if_pos hl] at h
        have hvs := rrs_vals rr hv
        have hps := pick_rps hvs ix
        have hlen : (pick ix vs).length = ks.length := by rw [hps.length, hl.2]
        refine ⟨by rw [hvs.length]; exact hl.1, fun a hna => ?_⟩
        refine ⟨a, pick ix vs, rfl, hlen, upd_same, fun d H2 hda hd h1 h2 h3 => ?_⟩
        have hd1 : H1 d = none := by rw [upd_ne hda] at hd; exact hd
        refine ⟨rfl, d, _, h1, h2, hd1, ?_⟩
        have eH : upd (del H2 a) d (.xd (ks.zip (pick ix vs)).reverse) = upd H1 d (.xd (ks.zip (pick ix vs)).reverse) := by
          funext b
          by_cases hb : b = d
          · rw [hb, upd_same, upd_same]
          · rw [upd_ne hb, upd_ne hb]
            by_cases hba : b = a
            · rw [hba, del_same, hna]
            · rw [del_ne hba, h3 b hba hb, upd_ne hba]
        rw [eH]
        have g := Grow.frz (o := .xd (ks.zip (pick ix vs)).reverse) a1.rep.sub hd1
        refine h (.ref C) (some d) σ _ _ (a1.trans (a1.rep.grow g)) ⟨C, rfl, E.mg, .inr ⟨d, (pick ix vs).reverse, rfl, ?_, by simp [hlen], (hps.mono g.sub).reverse⟩⟩
        rw [upd_same, zip_rev hlen.symm]
      · rw [if_neg hl] at h; exact h.elim
end
end DV
namespace DV
open PySem PySem.Spec PyProof.Rows L2 L2N
/-- how the keywords of a def without defaults bind -/
theorem fun_kbn {K : PySem.W.Frag} {x qual : Str} {st : Stmt} {f : Addr} {fd : FuncData} {ps kw : List Str} {ix : List Nat} (F : Fun K x qual st f fd)
    (h : ∀ (kV doc pm : Value) (an : Option Addr) (cdv ct : Value) (us ws : List Value), us.length = 1 → ws.length = kw.length → bindArgs (PySem.W.fnOf x qual (defArgs st) (defBody st) (defScope st) .none kV doc pm an cdv ct) ⟨us, kw.zip ws⟩ = pure (ps.zip (us ++ pick ix ws))) :
    KBn K fd ps 1 kw (fun us ws => us ++ pick ix ws) (fun us ws => us ++ pick ix ws) := by
  obtain ⟨oc, od, kV, doc, pm, an, cdv, ct, osl, rfl, lk, hcd⟩ := F.ex
  exact ⟨fun s us ws X l1 l2 => BindsTo.of_looks fun M => PySem.W.Looks.of_pure (h kV doc pm an cdv ct us ws l1 l2), fun r1 r2 => r1.append (pick_vals r2 ix)⟩
end DV
set_option maxHeartbeats 2000000
namespace DV
open PySem PySem.Spec PyProof.Rows L2 L2N
/-! ### raise C(e), C a refusal's class without an __init__ of its own -/
structure ErrOk0 (K : PySem.W.Frag) (mg : Str → Option Value) (c : Str) : Prop where
  ex : ∃ C, mg c = some (.ref C) ∧ PySem.W.excIn K C [.type "ValueError", .type "Exception", .type "BaseException", .type "object"] "ValueError.__new__" = true ∧ PySem.W.keepIn K (.ref C) = true ∧ PySem.W.subIn K (.ref C) (.type "BaseException") = some true ∧ PySem.W.typeIn K (.ref C) = some (.type "type")
theorem has_err0 {K : PySem.W.Frag} {mg : Str → Option Value} {h : Heap} {c : Str} {C : Addr} (X : K.In h) (G : h.Ns mainGlobals mg) (aC : PySem.W.nsIn K mainGlobals c = some (some (.ref C))) (q : PySem.W.excIn K C [.type "ValueError", .type "Exception", .type "BaseException", .type "object"] "ValueError.__new__" = true)
    (k : PySem.W.keepIn K (.ref C) = true) (b : PySem.W.subIn K (.ref C) (.type "BaseException") = some true) (t : PySem.W.typeIn K (.ref C) = some (.type "type")) : ErrOk0 K mg c := ⟨C, PySem.W.mg_of X G aC, q, k, b, t⟩
theorem pmk_own1N {X : Cx} {C : Addr} {bmB : List Value} {B newId initId : String} {x : Str} {e : Expr} {te : TE} {p pos : Pos} (F : ExcBaseFacts B newId initId bmB) (q : PySem.W.excIn X.K C bmB newId = true) (gC : X.mg x = some (.ref C)) (kC : PySem.W.keepIn X.K (.ref C) = true) (r : Raises X (.ref C)) (hg : Gl X x) (he : PE X e te)
    (hs : starEach [e] X.env = (false, eval e X.env) :: starEach [] X.env := by rfl) (hdb : (x == ("__debug__" : Str)) = false := by decide) : L2N.PMk X (.Call (.Name x p) [e] [] pos) (fun σ H Q => te σ H fun _ H1 => Q (.ref C) none H1) := by
  intro pins s σ H Q I h
  refine wpAny_Call_Name_kw (ld_glob I hg gC ?_ hdb)
  refine PySem.W.callWith_K (h₀ := X.base) I.ok.mod.kin kC ?_ hs (by rfl)
  rw [hs]
  show wpAny _ _ (spliced ((false, eval e X.env) :: backTo pos (starEach [] X.env))) _ _ s
  refine Calls.spliced_cons (thn (he.run pins s σ H _ I h) fun u s1 ⟨v, H1, I1, r1, q1⟩ => ?_)
  refine Calls.spliced_nil ⟨I1.kIn, ?_⟩
  show wpAny _ _ (call (.ref C) [u]) _ _ _
  obtain ⟨bm, N, nm, qn, bs, hdct, sn, sub, ab, col, dd, k0, k1, k2, k3, k5, mN, hC, hN, hni, T⟩ := exc_obj I1.kIn q
  refine wpAny_call_exc_subT F T hC hN hni (fun h' e hm => ?_) (by show 1 ≤ sizeLine; rw [sizeLine_eq]; omega)
  exact L2N.mk_of I1 hm r q1 (I1.hok.gone hm.new)
def kRaiseT (c : Str) (_ : R) (e : Ev) : Out Fl := .exn ⟨c, [], []⟩ e
def sRaiseT (c : Str) (s : SE) : SS := fun env => (s env).bind (kRaiseT c)
section
variable {X : Cx} {W : WX} {c : Str} {p pos pos' : Pos} {e : Expr} {s : SE}
theorem ds_raiseT (G : ErrOk0 X.K X.mg c) (tk : L2N.Takes X W) (he : DE W X e s) (hc : X.calm = true := by rfl) (hg : Gl X c := by rfl) (hdb : (c == ("__debug__" : Str)) = false := by decide) (hs : starEach [e] X.env = (false, eval e X.env) :: starEach [] X.env := by rfl) :
    DS W X (.Raise (some (.Call (.Name c p) [e] [] pos)) none pos') (sRaiseT c s) := by
  obtain ⟨C, hm, q, hk, hb, ht⟩ := G.ex
  refine weakS (L2N.ps_raise hc tk (pmk_own1N PySem.F.excBase_ValueError q hm hk (raises_own hb ht) hg he hs hdb)) fun D σ H ⟨Z, env, rep, h⟩ => ?_
  have h : PostS (mc X) W Z H env σ ((s env).bind (kRaiseT c)) D := h
  refine ⟨Z, env, rep, ?_⟩
  cases q : s env with
  | bad => rw [q] at h; exact h.elim
  | exn x e1 =>
    rw [q] at h
    exact fun cv d Z1 H1 a1 hx => h cv d σ Z1 H1 a1 hx
  | ok r e1 =>
    rw [q] at h
    intro Z1 H1 a1 v rr
    exact h (.ref C) none σ Z1 H1 a1 ⟨C, rfl, hm, .inl ⟨rfl, rfl, rfl⟩⟩
end
end DV
set_option maxHeartbeats 2000000
namespace GTX
open PySem PySem.Spec PySem.W PySem.Calls PyProof.Rows
section
variable {prog : Program} {w : World} {A : Around} {E : Value → Shared → Prop} {s : Shared}
open Builtin Builtin.Str in
/-- str of a tuple: some text -/
theorem str_tup {a : Addr} {o : Obj} {items : Array Value} {n : Nat} {ts : List Str} {Q : Value → Shared → Prop} (hu : A.units + 4 < cLine) (ha : s.heap.get? a = some o) (hc : o.cls = .type "tuple") (hd : o.data = .seq items n) (hT : ReprAll prog w items.toList ts) (hsz : (tupleText ts).length ≤ sizeLine)
    (h : ∀ (m : Str) (u tk : Tok), Q (.str m u) { s with toks := tk }) : wpAny (model prog w) A (call (.type "str") [.ref a]) Q E s := by
  refine callType_codes (T := "str") (Bi := Builtin.«object.__init__») (Q₁ := fun r s₁ => ∃ y u, r = .str y u ∧ Q r s₁) PySem.F.called_str (PySem.F.typeCall_str_1 _) PySem.F.entry_object_init ?_ ?_
  · refine codeAny_of_tree ?_
    show wpAny _ A.in1.in1 (do checkBuiltinCall "str.__new__" ⟨[.type "str", .ref a], []⟩; again (.builtin "str.__new__" ⟨[.type "str", .ref a], []⟩)) _ _ s
    refine wpAny_bind (wpAny_of_eq (PySem.F.newCall_str_1 _) (wpAny_pure ⟨plainId_quiet (by decide +kernel) _, codeAny_builtin PySem.F.entry_str_new ?_⟩))
    rw [Around.under_plainId (by decide +kernel) _]
    rw [str_new_tree]
    refine wpAny_bind (wpAny_pure ?_)
    refine wpAny_bind (wpAny_of_eq isSubtype_str_str ?_)
    have key : wpAny (model prog w) A.in1.in1 (PySem.Builtin.Str.strOf (.ref a)) (fun r s₁ => ∃ y u, r = .str y u ∧ Q r s₁) E s :=
      wpAny_strOf_slot rfl (by show A.units + 1 + 1 + 1 < cLine; omega) ⟨o, ha, hc⟩ PySem.F.slot_tuple_str PySem.F.slot_tuple_repr
        (fmt_tuple_repr ha hc hd hT hsz fun m u tk _ => ⟨m, u, rfl, ⟨m, u, rfl, h m u tk⟩⟩)
    exact wpAny_bind (wpAny_mono key (fun r s₁ hr => wpAny_pure hr) fun _ _ y => y)
  · rintro obj s₁ ⟨y, u, rfl, hq⟩
    exact ⟨typeIs_str _ _ _, PySem.F.args_object_init_2 _ _, object_init_meets PySem.F.called_str.init.lookup PySem.F.called_str.made (by decide) prog w A.in1 _ s₁ ⟨typeIs_str _ _ _, rfl, hq⟩⟩
end
end GTX
namespace DV
open PySem PySem.Spec PyProof.Rows L2 L2N
theorem repr_ints {prog : Program} {w : World} : ∀ {l : List Int} {its : List Value}, Vals (l.map V.int) its → (∀ y ∈ l, y.natAbs.log2 < 1920) → ReprAll prog w its (l.map fun i => toString i)
  | [], _, r, _ => by
    cases r
    exact .nil
  | y :: l, _, r, h => by
    cases r with
    | cons r1 r2 =>
      obtain ⟨t, rfl⟩ := r1
      exact .cons (ReprIs.int t (h y List.mem_cons_self)) (repr_ints r2 fun z hz => h z (List.mem_cons_of_mem _ hz))
def rStrA (K : PySem.W.Frag) : List V → Hp → VK → Prop := fun xs H Q => (∃ i, xs = [.int i] ∧ i.natAbs.log2 < 1920 ∧ Q (.str (toString i)) H) ∨ (∃ a, xs = [.str a] ∧ Q (.str a) H) ∨
  ∃ (a : Addr) (ns : List Int), xs = [.ref a] ∧ SqT K H a (ns.map V.int) ∧ (∀ n ∈ ns, n.natAbs.log2 < 1920) ∧ (tupleText (ns.map fun i => toString i)).length ≤ sizeLine ∧ ∀ m : Str, Q (.str m) H
theorem call_strA {X : Cx} {k : Nat} (hr : Room k X.A) : CallR X (.type "str") (rStrA X.K) := by
  intro pins s σ H xs us Q I r h
  rcases h with h | h | ⟨a, ns, rfl, ht, hb, hz, q⟩
  · exact call_str_int pins s σ H xs us Q I r h
  · exact SkE.call_str_str pins s σ H xs us Q I r h
  · obtain ⟨u, rfl, r1⟩ := vals1 r
    cases r1
    obtain ⟨its, rv, ⟨o, ho, hcl, n, hd⟩, _⟩ := I.tuple ht
    have hu := hr.units
    exact GTX.str_tup (by omega) ho hcl hd (repr_ints rv hb) hz fun m u tk => ⟨.str m, H, I.tok _, ⟨u, rfl⟩, q m⟩
end DV
set_option maxHeartbeats 2000000
namespace DV
open PySem PySem.Spec PyProof.Rows L2 L2N
/-! ### f(e, str(x)): what f does is alike for every text -/
open Classical in
noncomputable def strAD (d : D) : Bool := decide ((∃ i : Int, d = .int i ∧ i.natAbs.log2 < 1920) ∨ (∃ t, d = .str t) ∨ ∃ ns : List Int, d = .tup (ns.map D.int) ∧ (∀ n ∈ ns, n.natAbs.log2 < 1920) ∧ (tupleText (ns.map fun i => toString i)).length ≤ sizeLine)
theorem strAD_of {d : D} (h : strAD d = true) : (∃ i : Int, d = .int i ∧ i.natAbs.log2 < 1920) ∨ (∃ t, d = .str t) ∨ ∃ ns : List Int, d = .tup (ns.map D.int) ∧ (∀ n ∈ ns, n.natAbs.log2 < 1920) ∧ (tupleText (ns.map fun i => toString i)).length ≤ sizeLine := by
  classical
  unfold strAD at h
  exact @of_decide_eq_true _ _ h
open Classical in
noncomputable def alike (f : Str → Out R) : Out R := if ∀ m, f m = f "" then f "" else .bad
theorem alike_eq {f : Str → Out R} {o : Out R} (h : ∀ m, f m = o) : alike f = o := by
  unfold alike
  rw [if_pos fun m => (h m).trans (h "").symm]
  exact h ""
noncomputable def kStrA (F : FSem) (rs : List R) (e : Ev) : Out R := match rs with
  | [r1, r2] => (match r2.read e with
    | some d => if strAD d then alike (fun m => callR F [r1, .val (.str m)] e) else .bad
    | none => .bad)
  | _ => .bad
noncomputable def vCallTx (F : FSem) (t : SL) : SE := fun env => (t env).bind (kStrA F)
@[simp] theorem vCallTx_eq {F : FSem} {t : SL} {e : Ev} : vCallTx F t e = (t e).bind (kStrA F) := Eq.trans rfl rfl
section
variable {X : Cx} {W : WX}
theorem tE_mono {M : MC} {s : SE} {σ : SV} {H : Hp} {Q Q' : VK} (h : tE M W s σ H Q) (k : ∀ v H', Q v H' → Q' v H') : tE M W s σ H Q' := by
  obtain ⟨Z, env, rep, h⟩ := h
  exact ⟨Z, env, rep, h.mono fun r e Z' H' _ p v rr => k _ _ (p v rr)⟩
theorem tx_ok {K : PySem.W.Frag} {M : MC} (hK : M.K = K) {s1 s2 : SE} {σ : SV} {H : Hp} {Q : List V → Hp → Prop} (h : tL M W (vCons s1 (vCons s2 vNil)) σ H fun vs H' => ∃ x y, vs = [x, y] ∧ rStrA K [y] H' fun z H3 => Q [x, z] H3) :
    tCons (tE M W s1) (tCons (tCB (rStrA K) (tCons (tE M W s2) tNil)) tNil) σ H Q := by
  refine tE_mono (cons_ok h) fun x H1 h1 => ?_
  refine tE_mono (cons_ok h1) fun y H2 h2 => ?_
  obtain ⟨Z, env, rep, h2⟩ := h2
  obtain ⟨x', y', e, h3⟩ := h2 _ _ (.refl rep) [] trivial
  cases e
  exact h3
theorem de_callTx {k : Nat} {f : Addr} {fd : FuncData} {ps : List Str} {F : FSem} {x y : Str} {p pos p2 pos2 : Pos} {e1 e2 : Expr} {s1 s2 : SE} (G : FnOk X.prog X.w X.K X.mg X.base (L2N.CX X.prog X.w) k f fd ps (spF (mc X) 2 F.run)) (hr : Room k X.A) (hm : X.mg x = some (.ref f)) (hk : PySem.W.keepIn X.K (.ref f) = true) (hb : Binds X.K fd ps []) (tk : L2N.Takes X W) (h1 : DE W X e1 s1)
    (h2 : PE X (.Call (.Name y p2) [e2] [] pos2) (tCB (rStrA X.K) (tCons (tE (mc X) W s2) tNil))) (hn : F.modes.length = 2 := by rfl)
    (hg : Gl X x := by rfl) (hdb : (x == ("__debug__" : Str)) = false := by decide) (he1 : starEach [e1, .Call (.Name y p2) [e2] [] pos2] X.env = (false, eval e1 X.env) :: starEach [.Call (.Name y p2) [e2] [] pos2] X.env := by rfl) :
    DE W X (.Call (.Name x p) [e1, .Call (.Name y p2) [e2] [] pos2] [] pos) (vCallTx F (vCons s1 (vCons s2 vNil))) := by
  refine weakE (pe_callSD (E := fun σ c d H => W c d σ H) G hr hg hm hk hb .nil (fun σ => L2N.passAt tk σ) (pa_cons h1 (pa_cons h2 pa_nil) he1) hdb he1) fun σ H Q ⟨Z, env, rep, h⟩ => ?_
  refine tx_ok (M := mc X) rfl ⟨Z, env, rep, h.bindB.mono fun rs e1' Z1 H1 x1 q vs rr => ?_⟩
  unfold kStrA at q
  split at q
  · rename_i r1 r2
    match vs, rr with
    | [v1, v2], rr =>
      refine ⟨v1, v2, rfl, ?_⟩
      cases q1 : r2.read e1' with
      | none => rw [q1] at q; exact q.elim
      | some d =>
        rw [q1] at q
        simp only at q
        by_cases q2 : strAD d = true
        · rw [if_pos q2] at q
          unfold alike at q
          split at q
          · rename_i q3
            have key : ∀ m, spF (mc X) 2 F.run ([v1, .str m] ++ []) H1 Q (fun c d H' => W c d σ H') := fun m => by
              have q := q
              rw [← q3 m] at q
              refine call_post x1 (vs := [v1, .str m]) (rs := [r1, .val (.str m)]) ?_ hn (fun r e Z' H' q => q) q
              exact ⟨rr.1, fun _ => by simp [news], .str m, fun h => (by cases h), trivial⟩
            have w2 := rr.2.2.1.now x1.rep q1
            rcases strAD_of q2 with ⟨i, rfl, hi⟩ | ⟨t, rfl⟩ | ⟨ns, rfl, hz, hs⟩
            · exact .inl ⟨i, by rw [w2.int], hi, key _⟩
            · exact .inr (.inl ⟨t, by rw [w2.str], key _⟩)
            · obtain ⟨a, ws, ea, st, _, rs⟩ := w2.tup x1.rep.sub
              rw [rps_ints (l := ns) rs] at st
              exact .inr (.inr ⟨a, ns, by rw [ea], st, hz, hs, key⟩)
          · exact q.elim
        · rw [if_neg q2] at q; exact q.elim
  · exact q.elim
theorem de_callTxF {k : Nat} {ps : List Str} {F : FSem} {x y : Str} {p pos p2 pos2 : Pos} {e1 e2 : Expr} {s1 s2 : SE} (G : FO X.prog X.w X.K X.mg X.base k x ps F) (hr : Room k X.A) (tk : L2N.Takes X W) (h1 : DE W X e1 s1)
    (hm2 : X.mg y = none) (h2 : DE W X e2 s2) (hps : ps.length = 2 := by rfl) (hn : F.modes.length = 2 := by rfl)
    (hg : Gl X x := by rfl) (hg2 : Gl X y := by rfl) (hv : bootBuiltins y = some (.type "str") := by decide +kernel) (hn2 : y ≠ "__name__" := by decide) (hdb : (x == ("__debug__" : Str)) = false := by decide) (hdb2 : (y == ("__debug__" : Str)) = false := by decide)
    (he1 : starEach [e1, .Call (.Name y p2) [e2] [] pos2] X.env = (false, eval e1 X.env) :: starEach [.Call (.Name y p2) [e2] [] pos2] X.env := by rfl) (he2 : starEach [e2] X.env = (false, eval e2 X.env) :: starEach [] X.env := by rfl) :
    DE W X (.Call (.Name x p) [e1, .Call (.Name y p2) [e2] [] pos2] [] pos) (vCallTx F (vCons s1 (vCons s2 vNil))) := by
  obtain ⟨f, fd, hm, hk, hb, ok⟩ := G.ex
  rw [hps] at ok
  exact de_callTx ok hr hm hk hb tk h1 (pe_callTy (call_strA hr) hg2 hm2 hv (pa_cons h2 pa_nil he2) hn2 hdb2 he2 rfl) hn hg hdb he1
end
end DV
set_option maxHeartbeats 1000000
namespace DV
open PySem PySem.Spec L2
open PyProof.Rows (boot_int boot_tuple)
def topS (i : Nat) : Stmt := PySem.Challenge.pw_ringcoins_k18_refusals_made.main.body.getD i (.Pass ⟨0, 0, 0, 0⟩)
noncomputable section
variable {P : Program} {w : World} {K : PySem.W.Frag} {mg : Str → Option Value} {base : Heap}
abbrev s_NoNet_init : Stmt := inClass (topS 2) 0
theorem sc_NoNet_init : FnScope ["self", "why"] ["self", "why"] (defScope s_NoNet_init) := ⟨rfl, rfl, rfl, by decide +kernel, rfl, by decide +kernel, by decide +kernel⟩
theorem ok_err_NoNet (T : HasErr K mg "NoNet" ["why"] "NoNet.__init__" s_NoNet_init) (RE : RErr K mg) : ErrOk P w K mg base 1 "NoNet" ["why"] ∧ ErrOkK P w K mg base 1 "NoNet" ["why"] ["why"] [0] := by
  obtain ⟨C, f, fd, E, F⟩ := T.ex
  have ok : FnOk P w K mg base (L2N.CX P w) 1 f fd ["self", "why"] (spErr K C ["why"]) := err_init1 (m := "no net") E RE F sc_NoNet_init fun cdv A outer s H E' X hX => by
    subst hX
    exact ⟨_, _, _, _, _, _, rfl, pe_reinit rfl RE (pa_cons (pe_var (i := 0) rfl (Or.inl rfl)) (pa_cons pe_str pa_nil)), pe_var (i := 0) rfl (Or.inl rfl), pe_var (i := 1) rfl (Or.inl rfl), rfl, rfl⟩
  exact ⟨⟨C, f, fd, E, F.binds (ps := ["self", "why"]) (fun _ _ _ _ _ _ us hl => match us, hl with | [_, _], _ => rfl), ok⟩, ⟨C, f, fd, E, fun_kbn F (fun _ _ _ _ _ _ us ws h1 h2 => match us, h1, ws, h2 with | [_], _, [_], _ => rfl), ok⟩⟩
abbrev s_NoText_init : Stmt := inClass (topS 3) 0
theorem sc_NoText_init : FnScope ["self", "at"] ["self", "at"] (defScope s_NoText_init) := ⟨rfl, rfl, rfl, by decide +kernel, rfl, by decide +kernel, by decide +kernel⟩
theorem ok_err_NoText (T : HasErr K mg "NoText" ["at"] "NoText.__init__" s_NoText_init) (RE : RErr K mg) : ErrOk P w K mg base 1 "NoText" ["at"] ∧ ErrOkK P w K mg base 1 "NoText" ["at"] ["at"] [0] := by
  obtain ⟨C, f, fd, E, F⟩ := T.ex
  have ok : FnOk P w K mg base (L2N.CX P w) 1 f fd ["self", "at"] (spErr K C ["at"]) := err_init1 (m := "no text") E RE F sc_NoText_init fun cdv A outer s H E' X hX => by
    subst hX
    exact ⟨_, _, _, _, _, _, rfl, pe_reinit rfl RE (pa_cons (pe_var (i := 0) rfl (Or.inl rfl)) (pa_cons pe_str pa_nil)), pe_var (i := 0) rfl (Or.inl rfl), pe_var (i := 1) rfl (Or.inl rfl), rfl, rfl⟩
  exact ⟨⟨C, f, fd, E, F.binds (ps := ["self", "at"]) (fun _ _ _ _ _ _ us hl => match us, hl with | [_, _], _ => rfl), ok⟩, ⟨C, f, fd, E, fun_kbn F (fun _ _ _ _ _ _ us ws h1 h2 => match us, h1, ws, h2 with | [_], _, [_], _ => rfl), ok⟩⟩
abbrev s_Stuck_init : Stmt := inClass (topS 4) 0
theorem sc_Stuck_init : FnScope ["self", "at", "work", "store"] ["self", "at", "work", "store"] (defScope s_Stuck_init) := ⟨rfl, rfl, rfl, by decide +kernel, rfl, by decide +kernel, by decide +kernel⟩
theorem ok_err_Stuck (T : HasErr K mg "Stuck" ["at", "work", "store"] "Stuck.__init__" s_Stuck_init) (RE : RErr K mg) : ErrOk P w K mg base 1 "Stuck" ["at", "work", "store"] ∧ ErrOkK P w K mg base 1 "Stuck" ["at", "work", "store"] ["store", "at", "work"] [1, 2, 0] := by
  obtain ⟨C, f, fd, E, F⟩ := T.ex
  have ok : FnOk P w K mg base (L2N.CX P w) 1 f fd ["self", "at", "work", "store"] (spErr K C ["at", "work", "store"]) := err_init3 (m := "a work that may not be done") E RE F sc_Stuck_init fun cdv A outer s H E' X hX => by
    subst hX
    exact ⟨_, _, _, _, _, _, _, _, _, _, _, _, _, _, rfl, pe_reinit rfl RE (pa_cons (pe_var (i := 0) rfl (Or.inl rfl)) (pa_cons pe_str pa_nil)), pe_var (i := 0) rfl (Or.inl rfl), pe_var (i := 1) rfl (Or.inl rfl), pe_var (i := 0) rfl (Or.inl rfl), pe_var (i := 2) rfl (Or.inl rfl), pe_var (i := 0) rfl (Or.inl rfl), pe_var (i := 3) rfl (Or.inl rfl), rfl, rfl, rfl, rfl⟩
  exact ⟨⟨C, f, fd, E, F.binds (ps := ["self", "at", "work", "store"]) (fun _ _ _ _ _ _ us hl => match us, hl with | [_, _, _, _], _ => rfl), ok⟩, ⟨C, f, fd, E, fun_kbn F (fun _ _ _ _ _ _ us ws h1 h2 => match us, h1, ws, h2 with | [_], _, [_, _, _], _ => rfl), ok⟩⟩
abbrev s_Unlike_init : Stmt := inClass (topS 5) 0
theorem sc_Unlike_init : FnScope ["self", "work"] ["self", "work"] (defScope s_Unlike_init) := ⟨rfl, rfl, rfl, by decide +kernel, rfl, by decide +kernel, by decide +kernel⟩
theorem ok_err_Unlike (T : HasErr K mg "Unlike" ["work"] "Unlike.__init__" s_Unlike_init) (RE : RErr K mg) : ErrOk P w K mg base 1 "Unlike" ["work"] ∧ ErrOkK P w K mg base 1 "Unlike" ["work"] ["work"] [0] := by
  obtain ⟨C, f, fd, E, F⟩ := T.ex
  have ok : FnOk P w K mg base (L2N.CX P w) 1 f fd ["self", "work"] (spErr K C ["work"]) := err_init1 (m := "unlike counts") E RE F sc_Unlike_init fun cdv A outer s H E' X hX => by
    subst hX
    exact ⟨_, _, _, _, _, _, rfl, pe_reinit rfl RE (pa_cons (pe_var (i := 0) rfl (Or.inl rfl)) (pa_cons pe_str pa_nil)), pe_var (i := 0) rfl (Or.inl rfl), pe_var (i := 1) rfl (Or.inl rfl), rfl, rfl⟩
  exact ⟨⟨C, f, fd, E, F.binds (ps := ["self", "work"]) (fun _ _ _ _ _ _ us hl => match us, hl with | [_, _], _ => rfl), ok⟩, ⟨C, f, fd, E, fun_kbn F (fun _ _ _ _ _ _ us ws h1 h2 => match us, h1, ws, h2 with | [_], _, [_], _ => rfl), ok⟩⟩
abbrev s_Stopped_init : Stmt := inClass (topS 6) 0
theorem sc_Stopped_init : FnScope ["self", "ring"] ["self", "ring"] (defScope s_Stopped_init) := ⟨rfl, rfl, rfl, by decide +kernel, rfl, by decide +kernel, by decide +kernel⟩
theorem ok_err_Stopped (T : HasErr K mg "Stopped" ["ring"] "Stopped.__init__" s_Stopped_init) (RE : RErr K mg) : ErrOk P w K mg base 1 "Stopped" ["ring"] ∧ ErrOkK P w K mg base 1 "Stopped" ["ring"] ["ring"] [0] := by
  obtain ⟨C, f, fd, E, F⟩ := T.ex
  have ok : FnOk P w K mg base (L2N.CX P w) 1 f fd ["self", "ring"] (spErr K C ["ring"]) := err_init1 (m := "a ring without coins") E RE F sc_Stopped_init fun cdv A outer s H E' X hX => by
    subst hX
    exact ⟨_, _, _, _, _, _, rfl, pe_reinit rfl RE (pa_cons (pe_var (i := 0) rfl (Or.inl rfl)) (pa_cons pe_str pa_nil)), pe_var (i := 0) rfl (Or.inl rfl), pe_var (i := 1) rfl (Or.inl rfl), rfl, rfl⟩
  exact ⟨⟨C, f, fd, E, F.binds (ps := ["self", "ring"]) (fun _ _ _ _ _ _ us hl => match us, hl with | [_, _], _ => rfl), ok⟩, ⟨C, f, fd, E, fun_kbn F (fun _ _ _ _ _ _ us ws h1 h2 => match us, h1, ws, h2 with | [_], _, [_], _ => rfl), ok⟩⟩
abbrev s_NoStore_init : Stmt := inClass (topS 7) 0
theorem sc_NoStore_init : FnScope ["self", "store"] ["self", "store"] (defScope s_NoStore_init) := ⟨rfl, rfl, rfl, by decide +kernel, rfl, by decide +kernel, by decide +kernel⟩
theorem ok_err_NoStore (T : HasErr K mg "NoStore" ["store"] "NoStore.__init__" s_NoStore_init) (RE : RErr K mg) : ErrOk P w K mg base 1 "NoStore" ["store"] ∧ ErrOkK P w K mg base 1 "NoStore" ["store"] ["store"] [0] := by
  obtain ⟨C, f, fd, E, F⟩ := T.ex
  have ok : FnOk P w K mg base (L2N.CX P w) 1 f fd ["self", "store"] (spErr K C ["store"]) := err_init1 (m := "no such store") E RE F sc_NoStore_init fun cdv A outer s H E' X hX => by
    subst hX
    exact ⟨_, _, _, _, _, _, rfl, pe_reinit rfl RE (pa_cons (pe_var (i := 0) rfl (Or.inl rfl)) (pa_cons pe_str pa_nil)), pe_var (i := 0) rfl (Or.inl rfl), pe_var (i := 1) rfl (Or.inl rfl), rfl, rfl⟩
  exact ⟨⟨C, f, fd, E, F.binds (ps := ["self", "store"]) (fun _ _ _ _ _ _ us hl => match us, hl with | [_, _], _ => rfl), ok⟩, ⟨C, f, fd, E, fun_kbn F (fun _ _ _ _ _ _ us ws h1 h2 => match us, h1, ws, h2 with | [_], _, [_], _ => rfl), ok⟩⟩
abbrev s_NoPart_init : Stmt := inClass (topS 8) 0
theorem sc_NoPart_init : FnScope ["self", "many"] ["self", "many"] (defScope s_NoPart_init) := ⟨rfl, rfl, rfl, by decide +kernel, rfl, by decide +kernel, by decide +kernel⟩
theorem ok_err_NoPart (T : HasErr K mg "NoPart" ["many"] "NoPart.__init__" s_NoPart_init) (RE : RErr K mg) : ErrOk P w K mg base 1 "NoPart" ["many"] ∧ ErrOkK P w K mg base 1 "NoPart" ["many"] ["many"] [0] := by
  obtain ⟨C, f, fd, E, F⟩ := T.ex
  have ok : FnOk P w K mg base (L2N.CX P w) 1 f fd ["self", "many"] (spErr K C ["many"]) := err_init1 (m := "no part of the coins") E RE F sc_NoPart_init fun cdv A outer s H E' X hX => by
    subst hX
    exact ⟨_, _, _, _, _, _, rfl, pe_reinit rfl RE (pa_cons (pe_var (i := 0) rfl (Or.inl rfl)) (pa_cons pe_str pa_nil)), pe_var (i := 0) rfl (Or.inl rfl), pe_var (i := 1) rfl (Or.inl rfl), rfl, rfl⟩
  exact ⟨⟨C, f, fd, E, F.binds (ps := ["self", "many"]) (fun _ _ _ _ _ _ us hl => match us, hl with | [_, _], _ => rfl), ok⟩, ⟨C, f, fd, E, fun_kbn F (fun _ _ _ _ _ _ us ws h1 h2 => match us, h1, ws, h2 with | [_], _, [_], _ => rfl), ok⟩⟩
abbrev s_TooMany_init : Stmt := inClass (topS 9) 0
theorem sc_TooMany_init : FnScope ["self", "many"] ["self", "many"] (defScope s_TooMany_init) := ⟨rfl, rfl, rfl, by decide +kernel, rfl, by decide +kernel, by decide +kernel⟩
theorem ok_err_TooMany (T : HasErr K mg "TooMany" ["many"] "TooMany.__init__" s_TooMany_init) (RE : RErr K mg) : ErrOk P w K mg base 1 "TooMany" ["many"] ∧ ErrOkK P w K mg base 1 "TooMany" ["many"] ["many"] [0] := by
  obtain ⟨C, f, fd, E, F⟩ := T.ex
  have ok : FnOk P w K mg base (L2N.CX P w) 1 f fd ["self", "many"] (spErr K C ["many"]) := err_init1 (m := "too many works") E RE F sc_TooMany_init fun cdv A outer s H E' X hX => by
    subst hX
    exact ⟨_, _, _, _, _, _, rfl, pe_reinit rfl RE (pa_cons (pe_var (i := 0) rfl (Or.inl rfl)) (pa_cons pe_str pa_nil)), pe_var (i := 0) rfl (Or.inl rfl), pe_var (i := 1) rfl (Or.inl rfl), rfl, rfl⟩
  exact ⟨⟨C, f, fd, E, F.binds (ps := ["self", "many"]) (fun _ _ _ _ _ _ us hl => match us, hl with | [_, _], _ => rfl), ok⟩, ⟨C, f, fd, E, fun_kbn F (fun _ _ _ _ _ _ us ws h1 h2 => match us, h1, ws, h2 with | [_], _, [_], _ => rfl), ok⟩⟩
abbrev s_TooLong_init : Stmt := inClass (topS 10) 0
theorem sc_TooLong_init : FnScope ["self", "turns"] ["self", "turns"] (defScope s_TooLong_init) := ⟨rfl, rfl, rfl, by decide +kernel, rfl, by decide +kernel, by decide +kernel⟩
theorem ok_err_TooLong (T : HasErr K mg "TooLong" ["turns"] "TooLong.__init__" s_TooLong_init) (RE : RErr K mg) : ErrOk P w K mg base 1 "TooLong" ["turns"] ∧ ErrOkK P w K mg base 1 "TooLong" ["turns"] ["turns"] [0] := by
  obtain ⟨C, f, fd, E, F⟩ := T.ex
  have ok : FnOk P w K mg base (L2N.CX P w) 1 f fd ["self", "turns"] (spErr K C ["turns"]) := err_init1 (m := "too many turns") E RE F sc_TooLong_init fun cdv A outer s H E' X hX => by
    subst hX
    exact ⟨_, _, _, _, _, _, rfl, pe_reinit rfl RE (pa_cons (pe_var (i := 0) rfl (Or.inl rfl)) (pa_cons pe_str pa_nil)), pe_var (i := 0) rfl (Or.inl rfl), pe_var (i := 1) rfl (Or.inl rfl), rfl, rfl⟩
  exact ⟨⟨C, f, fd, E, F.binds (ps := ["self", "turns"]) (fun _ _ _ _ _ _ us hl => match us, hl with | [_, _], _ => rfl), ok⟩, ⟨C, f, fd, E, fun_kbn F (fun _ _ _ _ _ _ us ws h1 h2 => match us, h1, ws, h2 with | [_], _, [_], _ => rfl), ok⟩⟩
abbrev s_NoCoins_init : Stmt := inClass (topS 11) 0
theorem sc_NoCoins_init : FnScope ["self", "at"] ["self", "at"] (defScope s_NoCoins_init) := ⟨rfl, rfl, rfl, by decide +kernel, rfl, by decide +kernel, by decide +kernel⟩
theorem ok_err_NoCoins (T : HasErr K mg "NoCoins" ["at"] "NoCoins.__init__" s_NoCoins_init) (RE : RErr K mg) : ErrOk P w K mg base 1 "NoCoins" ["at"] ∧ ErrOkK P w K mg base 1 "NoCoins" ["at"] ["at"] [0] := by
  obtain ⟨C, f, fd, E, F⟩ := T.ex
  have ok : FnOk P w K mg base (L2N.CX P w) 1 f fd ["self", "at"] (spErr K C ["at"]) := err_init1 (m := "no coin row") E RE F sc_NoCoins_init fun cdv A outer s H E' X hX => by
    subst hX
    exact ⟨_, _, _, _, _, _, rfl, pe_reinit rfl RE (pa_cons (pe_var (i := 0) rfl (Or.inl rfl)) (pa_cons pe_str pa_nil)), pe_var (i := 0) rfl (Or.inl rfl), pe_var (i := 1) rfl (Or.inl rfl), rfl, rfl⟩
  exact ⟨⟨C, f, fd, E, F.binds (ps := ["self", "at"]) (fun _ _ _ _ _ _ us hl => match us, hl with | [_, _], _ => rfl), ok⟩, ⟨C, f, fd, E, fun_kbn F (fun _ _ _ _ _ _ us ws h1 h2 => match us, h1, ws, h2 with | [_], _, [_], _ => rfl), ok⟩⟩
abbrev s_NoWork_init : Stmt := inClass (topS 12) 0
theorem sc_NoWork_init : FnScope ["self", "work"] ["self", "work"] (defScope s_NoWork_init) := ⟨rfl, rfl, rfl, by decide +kernel, rfl, by decide +kernel, by decide +kernel⟩
theorem ok_err_NoWork (T : HasErr K mg "NoWork" ["work"] "NoWork.__init__" s_NoWork_init) (RE : RErr K mg) : ErrOk P w K mg base 1 "NoWork" ["work"] ∧ ErrOkK P w K mg base 1 "NoWork" ["work"] ["work"] [0] := by
  obtain ⟨C, f, fd, E, F⟩ := T.ex
  have ok : FnOk P w K mg base (L2N.CX P w) 1 f fd ["self", "work"] (spErr K C ["work"]) := err_init1 (m := "no such work") E RE F sc_NoWork_init fun cdv A outer s H E' X hX => by
    subst hX
    exact ⟨_, _, _, _, _, _, rfl, pe_reinit rfl RE (pa_cons (pe_var (i := 0) rfl (Or.inl rfl)) (pa_cons pe_str pa_nil)), pe_var (i := 0) rfl (Or.inl rfl), pe_var (i := 1) rfl (Or.inl rfl), rfl, rfl⟩
  exact ⟨⟨C, f, fd, E, F.binds (ps := ["self", "work"]) (fun _ _ _ _ _ _ us hl => match us, hl with | [_, _], _ => rfl), ok⟩, ⟨C, f, fd, E, fun_kbn F (fun _ _ _ _ _ _ us ws h1 h2 => match us, h1, ws, h2 with | [_], _, [_], _ => rfl), ok⟩⟩
abbrev s_NoName_init : Stmt := inClass (topS 16) 0
theorem sc_NoName_init : FnScope ["self", "name"] ["self", "name"] (defScope s_NoName_init) := ⟨rfl, rfl, rfl, by decide +kernel, rfl, by decide +kernel, by decide +kernel⟩
theorem ok_err_NoName (T : HasErr K mg "NoName" ["name"] "NoName.__init__" s_NoName_init) (RE : RErr K mg) : ErrOk P w K mg base 1 "NoName" ["name"] ∧ ErrOkK P w K mg base 1 "NoName" ["name"] ["name"] [0] := by
  obtain ⟨C, f, fd, E, F⟩ := T.ex
  have ok : FnOk P w K mg base (L2N.CX P w) 1 f fd ["self", "name"] (spErr K C ["name"]) := err_init1 (m := "no such name") E RE F sc_NoName_init fun cdv A outer s H E' X hX => by
    subst hX
    exact ⟨_, _, _, _, _, _, rfl, pe_reinit rfl RE (pa_cons (pe_var (i := 0) rfl (Or.inl rfl)) (pa_cons pe_str pa_nil)), pe_var (i := 0) rfl (Or.inl rfl), pe_var (i := 1) rfl (Or.inl rfl), rfl, rfl⟩
  exact ⟨⟨C, f, fd, E, F.binds (ps := ["self", "name"]) (fun _ _ _ _ _ _ us hl => match us, hl with | [_, _], _ => rfl), ok⟩, ⟨C, f, fd, E, fun_kbn F (fun _ _ _ _ _ _ us ws h1 h2 => match us, h1, ws, h2 with | [_], _, [_], _ => rfl), ok⟩⟩
abbrev s__law_pool : Stmt := topS 18
abbrev N__law_pool : List Str := ["_law_script", "_law_k", "_law_cell", "_law_left"]
theorem sc__law_pool : FnScope N__law_pool ["_law_script", "_law_k"] (defScope s__law_pool) := ⟨rfl, rfl, rfl, by decide +kernel, rfl, by decide +kernel, by decide +kernel⟩
def b__law_pool : SS := sSeq (sSet 2 (vC (.int 0)))
        (sSeq (sIf (bVal (vBin gGt (vCB gLen (vCons (vVar 0) (vNil))) (vC (.int 0)))) (sSet 2 (vBin gIx (vVar 0) (vBin gMod (vVar 1) (vCB gLen (vCons (vVar 0) (vNil)))))) (sNil))
        (sSeq (sSet 3 (vC (.int 0)))
        (sSeq (sIf (bAnd (bVal (vBin gLt (vVar 1) (vCB gLen (vCons (vVar 0) (vNil))))) (bVal (vBin gGe (vCB gAbs (vCons (vVar 2) (vNil))) (vBin gPow (vC (.int 10)) (vC (.int 18)))))) (sSet 3 (vCB gAbs (vCons (vVar 2) (vNil)))) (sNil))
        (sRet (vLst (vCons (vVar 3) (vCons (vVar 2) (vCons (vVar 1) (vCons (vC (.int 0)) (vNil))))))))))
def F__law_pool : FSem := ⟨[.lend, .lend], bodyRun 4 b__law_pool⟩
theorem run__law_pool (e : Ev) : F__law_pool.run e = bodyRun 4 b__law_pool e := rfl
theorem modes__law_pool : F__law_pool.modes = [.lend, .lend] := rfl
theorem ok__law_pool {f : Addr} {fd : FuncData} (F : Fun K "_law_pool" "_law_pool" s__law_pool f fd) (hm : mg "_law_pool" = some (.ref f)) (m_abs : mg "abs" = none) (m_len : mg "len" = none) : FO P w K mg base 1 "_law_pool" ["_law_script", "_law_k"] F__law_pool :=
  fo_mk (n := 2) F sc__law_pool hm (F.binds (ps := ["_law_script", "_law_k"]) (fun _ _ _ _ _ _ us hl => match us, hl with | [_, _], _ => rfl)) rfl rfl fun cdv A outer s H E hr => by
    unfold b__law_pool
    exact dss_cons (ds_set 2 sc__law_pool.nd (de_int))
        (dss_cons (ds_if (dt_cmp op_gt okGt (de_callB call_lenDD okLen m_len (da_cons (de_var 0) (da_nil))) (de_int)) (dss_one (ds_set 2 sc__law_pool.nd (de_ix ix_seq okIx (de_var 0) (de_op op_mod okMod (de_var 1) (de_callB call_lenDD okLen m_len (da_cons (de_var 0) (da_nil))))))) (dss_nil))
        (dss_cons (ds_set 3 sc__law_pool.nd (de_int))
        (dss_cons (ds_if ((dw_and (dt_cmp op_lt okLt (de_var 1) (de_callB call_lenDD okLen m_len (da_cons (de_var 0) (da_nil)))) (dw_and1 (dt_cmp op_ge okGe (de_callB call_abs okAbs m_abs (da_cons (de_var 2) (da_nil))) (de_op op_pow okPow (de_int) (de_int))))).dt) (dss_one (ds_set 3 sc__law_pool.nd (de_callB call_abs okAbs m_abs (da_cons (de_var 2) (da_nil))))) (dss_nil))
        (dss_one (ds_ret (de_lst (da_cons (de_var 3) (da_cons (de_var 2) (da_cons (de_var 1) (da_cons (de_int) (da_nil)))))))))))
abbrev s__law_raised : Stmt := topS 22
abbrev N__law_raised : List Str := ["_law_which", "_law_a", "_law_b", "_law_c"]
theorem sc__law_raised : FnScope N__law_raised ["_law_which", "_law_a", "_law_b", "_law_c"] (defScope s__law_raised) := ⟨rfl, rfl, rfl, by decide +kernel, rfl, by decide +kernel, by decide +kernel⟩
def b__law_raised : SS := sSeq (sIf (bVal (vBin gEq (vVar 0) (vC (.int 0)))) (sRaise "NoNet" ["why"] (vCons (vVar 1) (vNil))) (sNil))
        (sSeq (sIf (bVal (vBin gEq (vVar 0) (vC (.int 1)))) (sRaise "NoText" ["at"] (vCons (vVar 1) (vNil))) (sNil))
        (sSeq (sIf (bVal (vBin gEq (vVar 0) (vC (.int 2)))) (sRaise "Stuck" ["at", "work", "store"] (vCons (vVar 1) (vCons (vVar 2) (vCons (vVar 3) (vNil))))) (sNil))
        (sSeq (sIf (bVal (vBin gEq (vVar 0) (vC (.int 3)))) (sRaise "Unlike" ["work"] (vCons (vVar 1) (vNil))) (sNil))
        (sSeq (sIf (bVal (vBin gEq (vVar 0) (vC (.int 4)))) (sRaise "Stopped" ["ring"] (vCons (vVar 1) (vNil))) (sNil))
        (sSeq (sIf (bVal (vBin gEq (vVar 0) (vC (.int 5)))) (sRaise "NoStore" ["store"] (vCons (vVar 1) (vNil))) (sNil))
        (sSeq (sIf (bVal (vBin gEq (vVar 0) (vC (.int 6)))) (sRaise "NoPart" ["many"] (vCons (vVar 1) (vNil))) (sNil))
        (sSeq (sIf (bVal (vBin gEq (vVar 0) (vC (.int 7)))) (sRaise "TooMany" ["many"] (vCons (vVar 1) (vNil))) (sNil))
        (sSeq (sIf (bVal (vBin gEq (vVar 0) (vC (.int 8)))) (sRaise "TooLong" ["turns"] (vCons (vVar 1) (vNil))) (sNil))
        (sSeq (sIf (bVal (vBin gEq (vVar 0) (vC (.int 9)))) (sRaise "NoCoins" ["at"] (vCons (vVar 1) (vNil))) (sNil))
        (sSeq (sIf (bVal (vBin gEq (vVar 0) (vC (.int 10)))) (sRaise "NoWork" ["work"] (vCons (vVar 1) (vNil))) (sNil))
        (sSeq (sIf (bVal (vBin gEq (vVar 0) (vC (.int 11)))) (sRaise "NoName" ["name"] (vCons (vVar 1) (vNil))) (sNil))
        (sRet (vC .non)))))))))))))
def F__law_raised : FSem := ⟨[.lend, .lend, .lend, .lend], bodyRun 4 b__law_raised⟩
theorem run__law_raised (e : Ev) : F__law_raised.run e = bodyRun 4 b__law_raised e := rfl
theorem modes__law_raised : F__law_raised.modes = [.lend, .lend, .lend, .lend] := rfl
theorem ok__law_raised {f : Addr} {fd : FuncData} (F : Fun K "_law_raised" "_law_raised" s__law_raised f fd) (hm : mg "_law_raised" = some (.ref f))  (G_err_NoNet : ErrOk P w K mg base 1 "NoNet" ["why"] ∧ ErrOkK P w K mg base 1 "NoNet" ["why"] ["why"] [0]) (G_err_NoText : ErrOk P w K mg base 1 "NoText" ["at"] ∧ ErrOkK P w K mg base 1 "NoText" ["at"] ["at"] [0]) (G_err_Stuck : ErrOk P w K mg base 1 "Stuck" ["at", "work", "store"] ∧ ErrOkK P w K mg base 1 "Stuck" ["at", "work", "store"] ["store", "at", "work"] [1, 2, 0]) (G_err_Unlike : ErrOk P w K mg base 1 "Unlike" ["work"] ∧ ErrOkK P w K mg base 1 "Unlike" ["work"] ["work"] [0]) (G_err_Stopped : ErrOk P w K mg base 1 "Stopped" ["ring"] ∧ ErrOkK P w K mg base 1 "Stopped" ["ring"] ["ring"] [0]) (G_err_NoStore : ErrOk P w K mg base 1 "NoStore" ["store"] ∧ ErrOkK P w K mg base 1 "NoStore" ["store"] ["store"] [0]) (G_err_NoPart : ErrOk P w K mg base 1 "NoPart" ["many"] ∧ ErrOkK P w K mg base 1 "NoPart" ["many"] ["many"] [0]) (G_err_TooMany : ErrOk P w K mg base 1 "TooMany" ["many"] ∧ ErrOkK P w K mg base 1 "TooMany" ["many"] ["many"] [0]) (G_err_TooLong : ErrOk P w K mg base 1 "TooLong" ["turns"] ∧ ErrOkK P w K mg base 1 "TooLong" ["turns"] ["turns"] [0]) (G_err_NoCoins : ErrOk P w K mg base 1 "NoCoins" ["at"] ∧ ErrOkK P w K mg base 1 "NoCoins" ["at"] ["at"] [0]) (G_err_NoWork : ErrOk P w K mg base 1 "NoWork" ["work"] ∧ ErrOkK P w K mg base 1 "NoWork" ["work"] ["work"] [0]) (G_err_NoName : ErrOk P w K mg base 1 "NoName" ["name"] ∧ ErrOkK P w K mg base 1 "NoName" ["name"] ["name"] [0]) : FO P w K mg base 3 "_law_raised" ["_law_which", "_law_a", "_law_b", "_law_c"] F__law_raised :=
  fo_mk (n := 4) F sc__law_raised hm (F.binds (ps := ["_law_which", "_law_a", "_law_b", "_law_c"]) (fun _ _ _ _ _ _ us hl => match us, hl with | [_, _, _, _], _ => rfl)) rfl rfl fun cdv A outer s H E hr => by
    unfold b__law_raised
    exact dss_cons (ds_if (dt_cmp (op_eqD hr.units) okEq (de_var 0) (de_int)) (dss_one (ds_raise G_err_NoNet.1 (hr.mono (by decide)) (L2N.takes_of rfl rfl rfl rfl) (da_cons (de_var 1) (da_nil)))) (dss_nil))
        (dss_cons (ds_if (dt_cmp (op_eqD hr.units) okEq (de_var 0) (de_int)) (dss_one (ds_raise G_err_NoText.1 (hr.mono (by decide)) (L2N.takes_of rfl rfl rfl rfl) (da_cons (de_var 1) (da_nil)))) (dss_nil))
        (dss_cons (ds_if (dt_cmp (op_eqD hr.units) okEq (de_var 0) (de_int)) (dss_one (ds_raise G_err_Stuck.1 (hr.mono (by decide)) (L2N.takes_of rfl rfl rfl rfl) (da_cons (de_var 1) (da_cons (de_var 2) (da_cons (de_var 3) (da_nil)))))) (dss_nil))
        (dss_cons (ds_if (dt_cmp (op_eqD hr.units) okEq (de_var 0) (de_int)) (dss_one (ds_raise G_err_Unlike.1 (hr.mono (by decide)) (L2N.takes_of rfl rfl rfl rfl) (da_cons (de_var 1) (da_nil)))) (dss_nil))
        (dss_cons (ds_if (dt_cmp (op_eqD hr.units) okEq (de_var 0) (de_int)) (dss_one (ds_raise G_err_Stopped.1 (hr.mono (by decide)) (L2N.takes_of rfl rfl rfl rfl) (da_cons (de_var 1) (da_nil)))) (dss_nil))
        (dss_cons (ds_if (dt_cmp (op_eqD hr.units) okEq (de_var 0) (de_int)) (dss_one (ds_raise G_err_NoStore.1 (hr.mono (by decide)) (L2N.takes_of rfl rfl rfl rfl) (da_cons (de_var 1) (da_nil)))) (dss_nil))
        (dss_cons (ds_if (dt_cmp (op_eqD hr.units) okEq (de_var 0) (de_int)) (dss_one (ds_raise G_err_NoPart.1 (hr.mono (by decide)) (L2N.takes_of rfl rfl rfl rfl) (da_cons (de_var 1) (da_nil)))) (dss_nil))
        (dss_cons (ds_if (dt_cmp (op_eqD hr.units) okEq (de_var 0) (de_int)) (dss_one (ds_raise G_err_TooMany.1 (hr.mono (by decide)) (L2N.takes_of rfl rfl rfl rfl) (da_cons (de_var 1) (da_nil)))) (dss_nil))
        (dss_cons (ds_if (dt_cmp (op_eqD hr.units) okEq (de_var 0) (de_int)) (dss_one (ds_raise G_err_TooLong.1 (hr.mono (by decide)) (L2N.takes_of rfl rfl rfl rfl) (da_cons (de_var 1) (da_nil)))) (dss_nil))
        (dss_cons (ds_if (dt_cmp (op_eqD hr.units) okEq (de_var 0) (de_int)) (dss_one (ds_raise G_err_NoCoins.1 (hr.mono (by decide)) (L2N.takes_of rfl rfl rfl rfl) (da_cons (de_var 1) (da_nil)))) (dss_nil))
        (dss_cons (ds_if (dt_cmp (op_eqD hr.units) okEq (de_var 0) (de_int)) (dss_one (ds_raise G_err_NoWork.1 (hr.mono (by decide)) (L2N.takes_of rfl rfl rfl rfl) (da_cons (de_var 1) (da_nil)))) (dss_nil))
        (dss_cons (ds_if (dt_cmp (op_eqD hr.units) okEq (de_var 0) (de_int)) (dss_one (ds_raise G_err_NoName.1 (hr.mono (by decide)) (L2N.takes_of rfl rfl rfl rfl) (da_cons (de_var 1) (da_nil)))) (dss_nil))
        (dss_one (ds_ret (de_non))))))))))))))
abbrev s__law_raised_of_text : Stmt := topS 24
abbrev N__law_raised_of_text : List Str := ["_law_which", "_law_text"]
theorem sc__law_raised_of_text : FnScope N__law_raised_of_text ["_law_which", "_law_text"] (defScope s__law_raised_of_text) := ⟨rfl, rfl, rfl, by decide +kernel, rfl, by decide +kernel, by decide +kernel⟩
def b__law_raised_of_text : SS := sSeq (sIf (bVal (vBin gEq (vVar 0) (vC (.int 12)))) (sRaiseT "NothingDone" (vVar 1)) (sNil))
        (sSeq (sIf (bVal (vBin gEq (vVar 0) (vC (.int 13)))) (sRaiseT "NothingUndone" (vVar 1)) (sNil))
        (sSeq (sIf (bVal (vBin gEq (vVar 0) (vC (.int 14)))) (sRaiseT "NoLine" (vVar 1)) (sNil))
        (sRet (vC .non))))
def F__law_raised_of_text : FSem := ⟨[.lend, .lend], bodyRun 2 b__law_raised_of_text⟩
theorem run__law_raised_of_text (e : Ev) : F__law_raised_of_text.run e = bodyRun 2 b__law_raised_of_text e := rfl
theorem modes__law_raised_of_text : F__law_raised_of_text.modes = [.lend, .lend] := rfl
theorem ok__law_raised_of_text {f : Addr} {fd : FuncData} (F : Fun K "_law_raised_of_text" "_law_raised_of_text" s__law_raised_of_text f fd) (hm : mg "_law_raised_of_text" = some (.ref f)) (x_err0_NoLine : ErrOk0 K mg "NoLine") (x_err0_NothingDone : ErrOk0 K mg "NothingDone") (x_err0_NothingUndone : ErrOk0 K mg "NothingUndone") : FO P w K mg base 1 "_law_raised_of_text" ["_law_which", "_law_text"] F__law_raised_of_text :=
  fo_mk (n := 2) F sc__law_raised_of_text hm (F.binds (ps := ["_law_which", "_law_text"]) (fun _ _ _ _ _ _ us hl => match us, hl with | [_, _], _ => rfl)) rfl rfl fun cdv A outer s H E hr => by
    unfold b__law_raised_of_text
    exact dss_cons (ds_if (dt_cmp (op_eqD hr.units) okEq (de_var 0) (de_int)) (dss_one (ds_raiseT x_err0_NothingDone (L2N.takes_of rfl rfl rfl rfl) (de_var 1))) (dss_nil))
        (dss_cons (ds_if (dt_cmp (op_eqD hr.units) okEq (de_var 0) (de_int)) (dss_one (ds_raiseT x_err0_NothingUndone (L2N.takes_of rfl rfl rfl rfl) (de_var 1))) (dss_nil))
        (dss_cons (ds_if (dt_cmp (op_eqD hr.units) okEq (de_var 0) (de_int)) (dss_one (ds_raiseT x_err0_NoLine (L2N.takes_of rfl rfl rfl rfl) (de_var 1))) (dss_nil))
        (dss_one (ds_ret (de_non)))))
abbrev s__law_raised_by_names : Stmt := topS 23
abbrev N__law_raised_by_names : List Str := ["_law_which", "_law_a", "_law_b", "_law_c"]
theorem sc__law_raised_by_names : FnScope N__law_raised_by_names ["_law_which", "_law_a", "_law_b", "_law_c"] (defScope s__law_raised_by_names) := ⟨rfl, rfl, rfl, by decide +kernel, rfl, by decide +kernel, by decide +kernel⟩
def b__law_raised_by_names : SS := sSeq (sIf (bVal (vBin gEq (vVar 0) (vC (.int 0)))) (sRaiseK "NoNet" ["why"] 1 [0] (vCons (vVar 1) vNil)) (sNil))
        (sSeq (sIf (bVal (vBin gEq (vVar 0) (vC (.int 1)))) (sRaiseK "NoText" ["at"] 1 [0] (vCons (vVar 1) vNil)) (sNil))
        (sSeq (sIf (bVal (vBin gEq (vVar 0) (vC (.int 2)))) (sRaiseK "Stuck" ["at", "work", "store"] 3 [1, 2, 0] (vCons (vVar 3) (vCons (vVar 1) (vCons (vVar 2) vNil)))) (sNil))
        (sSeq (sIf (bVal (vBin gEq (vVar 0) (vC (.int 3)))) (sRaiseK "Unlike" ["work"] 1 [0] (vCons (vVar 1) vNil)) (sNil))
        (sSeq (sIf (bVal (vBin gEq (vVar 0) (vC (.int 4)))) (sRaiseK "Stopped" ["ring"] 1 [0] (vCons (vVar 1) vNil)) (sNil))
        (sSeq (sIf (bVal (vBin gEq (vVar 0) (vC (.int 5)))) (sRaiseK "NoStore" ["store"] 1 [0] (vCons (vVar 1) vNil)) (sNil))
        (sSeq (sIf (bVal (vBin gEq (vVar 0) (vC (.int 6)))) (sRaiseK "NoPart" ["many"] 1 [0] (vCons (vVar 1) vNil)) (sNil))
        (sSeq (sIf (bVal (vBin gEq (vVar 0) (vC (.int 7)))) (sRaiseK "TooMany" ["many"] 1 [0] (vCons (vVar 1) vNil)) (sNil))
        (sSeq (sIf (bVal (vBin gEq (vVar 0) (vC (.int 8)))) (sRaiseK "TooLong" ["turns"] 1 [0] (vCons (vVar 1) vNil)) (sNil))
        (sSeq (sIf (bVal (vBin gEq (vVar 0) (vC (.int 9)))) (sRaiseK "NoCoins" ["at"] 1 [0] (vCons (vVar 1) vNil)) (sNil))
        (sSeq (sIf (bVal (vBin gEq (vVar 0) (vC (.int 10)))) (sRaiseK "NoWork" ["work"] 1 [0] (vCons (vVar 1) vNil)) (sNil))
        (sSeq (sIf (bVal (vBin gEq (vVar 0) (vC (.int 11)))) (sRaiseK "NoName" ["name"] 1 [0] (vCons (vVar 1) vNil)) (sNil))
        (sRet (vC .non)))))))))))))
def F__law_raised_by_names : FSem := ⟨[.lend, .lend, .lend, .lend], bodyRun 4 b__law_raised_by_names⟩
theorem run__law_raised_by_names (e : Ev) : F__law_raised_by_names.run e = bodyRun 4 b__law_raised_by_names e := rfl
theorem modes__law_raised_by_names : F__law_raised_by_names.modes = [.lend, .lend, .lend, .lend] := rfl
theorem ok__law_raised_by_names {f : Addr} {fd : FuncData} (F : Fun K "_law_raised_by_names" "_law_raised_by_names" s__law_raised_by_names f fd) (hm : mg "_law_raised_by_names" = some (.ref f))  (G_err_NoNet : ErrOk P w K mg base 1 "NoNet" ["why"] ∧ ErrOkK P w K mg base 1 "NoNet" ["why"] ["why"] [0]) (G_err_NoText : ErrOk P w K mg base 1 "NoText" ["at"] ∧ ErrOkK P w K mg base 1 "NoText" ["at"] ["at"] [0]) (G_err_Stuck : ErrOk P w K mg base 1 "Stuck" ["at", "work", "store"] ∧ ErrOkK P w K mg base 1 "Stuck" ["at", "work", "store"] ["store", "at", "work"] [1, 2, 0]) (G_err_Unlike : ErrOk P w K mg base 1 "Unlike" ["work"] ∧ ErrOkK P w K mg base 1 "Unlike" ["work"] ["work"] [0]) (G_err_Stopped : ErrOk P w K mg base 1 "Stopped" ["ring"] ∧ ErrOkK P w K mg base 1 "Stopped" ["ring"] ["ring"] [0]) (G_err_NoStore : ErrOk P w K mg base 1 "NoStore" ["store"] ∧ ErrOkK P w K mg base 1 "NoStore" ["store"] ["store"] [0]) (G_err_NoPart : ErrOk P w K mg base 1 "NoPart" ["many"] ∧ ErrOkK P w K mg base 1 "NoPart" ["many"] ["many"] [0]) (G_err_TooMany : ErrOk P w K mg base 1 "TooMany" ["many"] ∧ ErrOkK P w K mg base 1 "TooMany" ["many"] ["many"] [0]) (G_err_TooLong : ErrOk P w K mg base 1 "TooLong" ["turns"] ∧ ErrOkK P w K mg base 1 "TooLong" ["turns"] ["turns"] [0]) (G_err_NoCoins : ErrOk P w K mg base 1 "NoCoins" ["at"] ∧ ErrOkK P w K mg base 1 "NoCoins" ["at"] ["at"] [0]) (G_err_NoWork : ErrOk P w K mg base 1 "NoWork" ["work"] ∧ ErrOkK P w K mg base 1 "NoWork" ["work"] ["work"] [0]) (G_err_NoName : ErrOk P w K mg base 1 "NoName" ["name"] ∧ ErrOkK P w K mg base 1 "NoName" ["name"] ["name"] [0]) : FO P w K mg base 3 "_law_raised_by_names" ["_law_which", "_law_a", "_law_b", "_law_c"] F__law_raised_by_names :=
  fo_mk (n := 4) F sc__law_raised_by_names hm (F.binds (ps := ["_law_which", "_law_a", "_law_b", "_law_c"]) (fun _ _ _ _ _ _ us hl => match us, hl with | [_, _, _, _], _ => rfl)) rfl rfl fun cdv A outer s H E hr => by
    unfold b__law_raised_by_names
    exact dss_cons (ds_if (dt_cmp (op_eqD hr.units) okEq (de_var 0) (de_int)) (dss_one (ds_raiseK G_err_NoNet.2 (hr.mono (by decide)) (L2N.takes_of rfl rfl rfl rfl) (dk_cons (de_var 1) dk_nil))) (dss_nil))
        (dss_cons (ds_if (dt_cmp (op_eqD hr.units) okEq (de_var 0) (de_int)) (dss_one (ds_raiseK G_err_NoText.2 (hr.mono (by decide)) (L2N.takes_of rfl rfl rfl rfl) (dk_cons (de_var 1) dk_nil))) (dss_nil))
        (dss_cons (ds_if (dt_cmp (op_eqD hr.units) okEq (de_var 0) (de_int)) (dss_one (ds_raiseK G_err_Stuck.2 (hr.mono (by decide)) (L2N.takes_of rfl rfl rfl rfl) (dk_cons (de_var 3) (dk_cons (de_var 1) (dk_cons (de_var 2) dk_nil))))) (dss_nil))
        (dss_cons (ds_if (dt_cmp (op_eqD hr.units) okEq (de_var 0) (de_int)) (dss_one (ds_raiseK G_err_Unlike.2 (hr.mono (by decide)) (L2N.takes_of rfl rfl rfl rfl) (dk_cons (de_var 1) dk_nil))) (dss_nil))
        (dss_cons (ds_if (dt_cmp (op_eqD hr.units) okEq (de_var 0) (de_int)) (dss_one (ds_raiseK G_err_Stopped.2 (hr.mono (by decide)) (L2N.takes_of rfl rfl rfl rfl) (dk_cons (de_var 1) dk_nil))) (dss_nil))
        (dss_cons (ds_if (dt_cmp (op_eqD hr.units) okEq (de_var 0) (de_int)) (dss_one (ds_raiseK G_err_NoStore.2 (hr.mono (by decide)) (L2N.takes_of rfl rfl rfl rfl) (dk_cons (de_var 1) dk_nil))) (dss_nil))
        (dss_cons (ds_if (dt_cmp (op_eqD hr.units) okEq (de_var 0) (de_int)) (dss_one (ds_raiseK G_err_NoPart.2 (hr.mono (by decide)) (L2N.takes_of rfl rfl rfl rfl) (dk_cons (de_var 1) dk_nil))) (dss_nil))
        (dss_cons (ds_if (dt_cmp (op_eqD hr.units) okEq (de_var 0) (de_int)) (dss_one (ds_raiseK G_err_TooMany.2 (hr.mono (by decide)) (L2N.takes_of rfl rfl rfl rfl) (dk_cons (de_var 1) dk_nil))) (dss_nil))
        (dss_cons (ds_if (dt_cmp (op_eqD hr.units) okEq (de_var 0) (de_int)) (dss_one (ds_raiseK G_err_TooLong.2 (hr.mono (by decide)) (L2N.takes_of rfl rfl rfl rfl) (dk_cons (de_var 1) dk_nil))) (dss_nil))
        (dss_cons (ds_if (dt_cmp (op_eqD hr.units) okEq (de_var 0) (de_int)) (dss_one (ds_raiseK G_err_NoCoins.2 (hr.mono (by decide)) (L2N.takes_of rfl rfl rfl rfl) (dk_cons (de_var 1) dk_nil))) (dss_nil))
        (dss_cons (ds_if (dt_cmp (op_eqD hr.units) okEq (de_var 0) (de_int)) (dss_one (ds_raiseK G_err_NoWork.2 (hr.mono (by decide)) (L2N.takes_of rfl rfl rfl rfl) (dk_cons (de_var 1) dk_nil))) (dss_nil))
        (dss_cons (ds_if (dt_cmp (op_eqD hr.units) okEq (de_var 0) (de_int)) (dss_one (ds_raiseK G_err_NoName.2 (hr.mono (by decide)) (L2N.takes_of rfl rfl rfl rfl) (dk_cons (de_var 1) dk_nil))) (dss_nil))
        (dss_one (ds_ret (de_non))))))))))))))
abbrev s__law_sorts : Stmt := topS 20
abbrev N__law_sorts : List Str := ["_law_e", "_law_kinds", "_law_word", "_law_truth"]
theorem sc__law_sorts : FnScope N__law_sorts ["_law_e"] (defScope s__law_sorts) := ⟨rfl, rfl, rfl, by decide +kernel, rfl, by decide +kernel, by decide +kernel⟩
theorem ok__law_sorts {f : Addr} {fd : FuncData} (F : Fun K "_law_sorts" "_law_sorts" s__law_sorts f fd) (hm : mg "_law_sorts" = some (.ref f)) (H_K : HasKinds K mg ["NoCoins", "NoLine", "NoName", "NoNet", "NoPart", "NoStore", "NoText", "NoWork", "NothingDone", "NothingUndone", "Stopped", "Stuck", "TooLong", "TooMany", "Unlike"]) (m_isinstance : mg "isinstance" = none) (m_ValueError : mg "ValueError" = none) : SortOk P w K mg base 1 "_law_sorts" ["_law_e"] ["NoCoins", "NoLine", "NoName", "NoNet", "NoPart", "NoStore", "NoText", "NoWork", "NothingDone", "NothingUndone", "Stopped", "Stuck", "TooLong", "TooMany", "Unlike"] :=
  sort_ok F sc__law_sorts rfl hm (F.binds (ps := ["_law_e"]) (fun _ _ _ _ _ _ us hl => match us, hl with | [_], _ => rfl)) (by decide) fun Y cdv A outer s H E p hY oe a cls d EC => by
    subst hY
    exact ⟨_, _, _, _, _, _, _, _, _, rfl, ky_guard (vy_ring EC H_K m_isinstance (pe_var rfl (Or.inl rfl))) (vy_val EC H_K m_isinstance m_ValueError (pe_var rfl (Or.inl rfl))) (pss_one (ps_ret pe_str)),
      ky_make sc__law_sorts.nd (vy_cons (vy_pair EC H_K m_isinstance (pe_var rfl (Or.inl rfl))) (vy_cons (vy_pair EC H_K m_isinstance (pe_var rfl (Or.inl rfl))) (vy_cons (vy_pair EC H_K m_isinstance (pe_var rfl (Or.inl rfl))) vy_nil))) rfl (Or.inl rfl) rfl (Or.inl rfl),
      ky_more sc__law_sorts.nd (pe_var rfl (Or.inl rfl)) (vy_cons (vy_pair EC H_K m_isinstance (pe_var rfl (Or.inl rfl))) (vy_cons (vy_pair EC H_K m_isinstance (pe_var rfl (Or.inl rfl))) vy_nil)) rfl (Or.inl rfl) rfl (Or.inl rfl),
      ky_more sc__law_sorts.nd (pe_var rfl (Or.inl rfl)) (vy_cons (vy_pair EC H_K m_isinstance (pe_var rfl (Or.inl rfl))) (vy_cons (vy_pair EC H_K m_isinstance (pe_var rfl (Or.inl rfl))) vy_nil)) rfl (Or.inl rfl) rfl (Or.inl rfl),
      ky_more sc__law_sorts.nd (pe_var rfl (Or.inl rfl)) (vy_cons (vy_pair EC H_K m_isinstance (pe_var rfl (Or.inl rfl))) (vy_cons (vy_pair EC H_K m_isinstance (pe_var rfl (Or.inl rfl))) vy_nil)) rfl (Or.inl rfl) rfl (Or.inl rfl),
      ky_more sc__law_sorts.nd (pe_var rfl (Or.inl rfl)) (vy_cons (vy_pair EC H_K m_isinstance (pe_var rfl (Or.inl rfl))) (vy_cons (vy_pair EC H_K m_isinstance (pe_var rfl (Or.inl rfl))) vy_nil)) rfl (Or.inl rfl) rfl (Or.inl rfl),
      ky_more sc__law_sorts.nd (pe_var rfl (Or.inl rfl)) (vy_cons (vy_pair EC H_K m_isinstance (pe_var rfl (Or.inl rfl))) (vy_cons (vy_pair EC H_K m_isinstance (pe_var rfl (Or.inl rfl))) vy_nil)) rfl (Or.inl rfl) rfl (Or.inl rfl),
      ky_more sc__law_sorts.nd (pe_var rfl (Or.inl rfl)) (vy_cons (vy_pair EC H_K m_isinstance (pe_var rfl (Or.inl rfl))) (vy_cons (vy_pair EC H_K m_isinstance (pe_var rfl (Or.inl rfl))) vy_nil)) rfl (Or.inl rfl) rfl (Or.inl rfl),
      ky_join (pe_lz EC.hot sc__law_sorts.nd (pe_var rfl (Or.inl rfl)) (own := [("_law_word", 2), ("_law_truth", 3)]) (blkOk_by (N := N__law_sorts) (sc := (defScope s__law_sorts)) (by decide +kernel)) (fun _ _ _ _ _ hz => pg_tupZ hz (pgs_cons (pg_name (i := 2) sc__law_sorts.nd rfl (Or.inl rfl)) (pgs_cons (pg_name (i := 3) sc__law_sorts.nd rfl (Or.inl rfl)) pgs_nil))) (fun _ _ _ _ _ _ => pts_one (pt_val (pe_var rfl (Or.inl rfl)))) (fun _ _ _ _ _ _ => pe_var rfl (Or.inl rfl))) pe_str rfl rfl rfl⟩
abbrev s__law_caught : Stmt := topS 26
abbrev N__law_caught : List Str := ["_law_which", "_law_things", "_law_named", "_law_held", "_law_sorts_here", "_law_e"]
theorem sc__law_caught : FnScope N__law_caught ["_law_which", "_law_things", "_law_named"] (defScope s__law_caught) := ⟨rfl, rfl, rfl, by decide +kernel, rfl, by decide +kernel, by decide +kernel⟩
def b__law_caught : SS := sSeq (sSet 3 (vC .non))
        (sSeq (sSet 4 (vC (.str "")))
        (sSeq (sHeld 5 3 4 [("NoCoins", true), ("NoLine", true), ("NoName", true), ("NoNet", true), ("NoPart", true), ("NoStore", true), ("NoText", true), ("NoWork", true), ("NothingDone", true), ("NothingUndone", true), ("Stopped", true), ("Stuck", true), ("TooLong", true), ("TooMany", true), ("Unlike", true)] (sSeq (sIf (bVal (vVar 2)) (sDrop (vCall F__law_raised_by_names (vCons (vVar 0) (vCons (vBin gIx (vVar 1) (vC (.int 0))) (vCons (vBin gIx (vVar 1) (vC (.int 1))) (vCons (vBin gIx (vVar 1) (vC (.int 2))) (vNil))))))) (sNil))
        (sSeq (sDrop (vCall F__law_raised (vCons (vVar 0) (vCons (vBin gIx (vVar 1) (vC (.int 0))) (vCons (vBin gIx (vVar 1) (vC (.int 1))) (vCons (vBin gIx (vVar 1) (vC (.int 2))) (vNil)))))))
        (sDrop (vCallTx F__law_raised_of_text (vCons (vVar 0) (vCons (vBin gIx (vVar 1) (vC (.int 0))) (vNil))))))) (fSort ["NoCoins", "NoLine", "NoName", "NoNet", "NoPart", "NoStore", "NoText", "NoWork", "NothingDone", "NothingUndone", "Stopped", "Stuck", "TooLong", "TooMany", "Unlike"]))
        (sRet (vTup (vCons (vVar 3) (vCons (vVar 4) (vNil)))))))
def F__law_caught : FSem := ⟨[.lend, .lend, .lend], bodyRun 6 b__law_caught⟩
theorem run__law_caught (e : Ev) : F__law_caught.run e = bodyRun 6 b__law_caught e := rfl
theorem modes__law_caught : F__law_caught.modes = [.lend, .lend, .lend] := rfl
theorem ok__law_caught {f : Addr} {fd : FuncData} (F : Fun K "_law_caught" "_law_caught" s__law_caught f fd) (hm : mg "_law_caught" = some (.ref f)) (m_str : mg "str" = none) (x_catch_RingError_NoCoins_NoLine_NoName_NoNet_NoPart_NoStore_NoText_NoWork_NothingDone_NothingUndone_Stopped_Stuck_TooLong_TooMany_Unlike : Catch K mg "RingError" [("NoCoins", true), ("NoLine", true), ("NoName", true), ("NoNet", true), ("NoPart", true), ("NoStore", true), ("NoText", true), ("NoWork", true), ("NothingDone", true), ("NothingUndone", true), ("Stopped", true), ("Stuck", true), ("TooLong", true), ("TooMany", true), ("Unlike", true)]) (G__law_raised_by_names : FO P w K mg base 3 "_law_raised_by_names" ["_law_which", "_law_a", "_law_b", "_law_c"] F__law_raised_by_names) (G__law_raised : FO P w K mg base 3 "_law_raised" ["_law_which", "_law_a", "_law_b", "_law_c"] F__law_raised) (G__law_raised_of_text : FO P w K mg base 1 "_law_raised_of_text" ["_law_which", "_law_text"] F__law_raised_of_text) (G__law_sorts : SortOk P w K mg base 1 "_law_sorts" ["_law_e"] ["NoCoins", "NoLine", "NoName", "NoNet", "NoPart", "NoStore", "NoText", "NoWork", "NothingDone", "NothingUndone", "Stopped", "Stuck", "TooLong", "TooMany", "Unlike"]) : FO P w K mg base 4 "_law_caught" ["_law_which", "_law_things", "_law_named"] F__law_caught :=
  fo_mk (n := 3) F sc__law_caught hm (F.binds (ps := ["_law_which", "_law_things", "_law_named"]) (fun _ _ _ _ _ _ us hl => match us, hl with | [_, _, _], _ => rfl)) rfl rfl fun cdv A outer s H E hr => by
    unfold b__law_caught
    exact dss_cons (ds_set 3 sc__law_caught.nd (de_non))
        (dss_cons (ds_set 4 sc__law_caught.nd (de_str))
        (dss_cons (ds_try_held 5 3 4 (by decide) x_catch_RingError_NoCoins_NoLine_NoName_NoNet_NoPart_NoStore_NoText_NoWork_NothingDone_NothingUndone_Stopped_Stuck_TooLong_TooMany_Unlike sc__law_caught.nd (L2N.takes_of rfl rfl rfl rfl) (fun W2 pn xe tkB pB => dss_cons (ds_if (dt_val (de_var 2)) (dss_one (ds_expr (de_callF G__law_raised_by_names (hr.mono (by decide)) (tkB) (da_cons (de_var 0) (da_cons (de_ix ix_seq okIx (de_var 1) (de_int)) (da_cons (de_ix ix_seq okIx (de_var 1) (de_int)) (da_cons (de_ix ix_seq okIx (de_var 1) (de_int)) (da_nil)))))))) (dss_nil))
        (dss_cons (ds_expr (de_callF G__law_raised (hr.mono (by decide)) (tkB) (da_cons (de_var 0) (da_cons (de_ix ix_seq okIx (de_var 1) (de_int)) (da_cons (de_ix ix_seq okIx (de_var 1) (de_int)) (da_cons (de_ix ix_seq okIx (de_var 1) (de_int)) (da_nil)))))))
        (dss_one (ds_expr (de_callTxF G__law_raised_of_text (hr.mono (by decide)) (tkB) (de_var 0) m_str (de_ix ix_seq okIx (de_var 1) (de_int))))))) (vx_sorts G__law_sorts (hr.mono (by decide)) fun _ _ _ => pe_var (i := 5) rfl (Or.inl rfl)) (fun _ _ _ => pe_var (i := 5) rfl (Or.inl rfl)))
        (dss_one (ds_ret (de_tup (da_cons (de_var 3) (da_cons (de_var 4) (da_nil))))))))
abbrev s__law_fields : Stmt := topS 25
abbrev N__law_fields : List Str := ["_law_held", "_law_which"]
theorem sc__law_fields : FnScope N__law_fields ["_law_held", "_law_which"] (defScope s__law_fields) := ⟨rfl, rfl, rfl, by decide +kernel, rfl, by decide +kernel, by decide +kernel⟩
def b__law_fields : SS := sSeq (sIf (bVal (vBin (gIn false) (vVar 1) (vTup (vCons (vC (.int 0)) (vCons (vC (.int 1)) (vCons (vC (.int 9)) (vNil))))))) (sSeq (sIf (bVal (vBin gEq (vVar 1) (vC (.int 0)))) (sRet (vTup (vCons (vFldX ["NoNet"] "why" (vVar 0)) (vNil)))) (sNil))
        (sRet (vTup (vCons (vFldX ["NoCoins", "NoText", "Stuck"] "at" (vVar 0)) (vNil))))) (sNil))
        (sSeq (sIf (bVal (vBin gEq (vVar 1) (vC (.int 2)))) (sRet (vTup (vCons (vFldX ["NoCoins", "NoText", "Stuck"] "at" (vVar 0)) (vCons (vFldX ["NoWork", "Stuck", "Unlike"] "work" (vVar 0)) (vCons (vFldX ["NoStore", "Stuck"] "store" (vVar 0)) (vNil)))))) (sNil))
        (sSeq (sIf (bVal (vBin (gIn false) (vVar 1) (vTup (vCons (vC (.int 3)) (vCons (vC (.int 10)) (vNil)))))) (sRet (vTup (vCons (vFldX ["NoWork", "Stuck", "Unlike"] "work" (vVar 0)) (vNil)))) (sNil))
        (sSeq (sIf (bVal (vBin (gIn false) (vVar 1) (vTup (vCons (vC (.int 6)) (vCons (vC (.int 7)) (vNil)))))) (sRet (vTup (vCons (vFldX ["NoPart", "TooMany"] "many" (vVar 0)) (vNil)))) (sNil))
        (sSeq (sIf (bVal (vBin gEq (vVar 1) (vC (.int 4)))) (sRet (vTup (vCons (vFldX ["Stopped"] "ring" (vVar 0)) (vNil)))) (sNil))
        (sSeq (sIf (bVal (vBin gEq (vVar 1) (vC (.int 5)))) (sRet (vTup (vCons (vFldX ["NoStore", "Stuck"] "store" (vVar 0)) (vNil)))) (sNil))
        (sSeq (sIf (bVal (vBin gEq (vVar 1) (vC (.int 8)))) (sRet (vTup (vCons (vFldX ["TooLong"] "turns" (vVar 0)) (vNil)))) (sNil))
        (sSeq (sIf (bVal (vBin gEq (vVar 1) (vC (.int 11)))) (sRet (vTup (vCons (vFldX ["NoName"] "name" (vVar 0)) (vNil)))) (sNil))
        (sRet (vTup (vNil))))))))))
def F__law_fields : FSem := ⟨[.lend, .lend], bodyRun 2 b__law_fields⟩
theorem run__law_fields (e : Ev) : F__law_fields.run e = bodyRun 2 b__law_fields e := rfl
theorem modes__law_fields : F__law_fields.modes = [.lend, .lend] := rfl
theorem ok__law_fields {f : Addr} {fd : FuncData} (F : Fun K "_law_fields" "_law_fields" s__law_fields f fd) (hm : mg "_law_fields" = some (.ref f)) (x_fld_NoCoins_at : ErrF K mg "NoCoins" "at") (x_fld_NoName_name : ErrF K mg "NoName" "name") (x_fld_NoNet_why : ErrF K mg "NoNet" "why") (x_fld_NoPart_many : ErrF K mg "NoPart" "many") (x_fld_NoStore_store : ErrF K mg "NoStore" "store") (x_fld_NoText_at : ErrF K mg "NoText" "at") (x_fld_NoWork_work : ErrF K mg "NoWork" "work") (x_fld_Stopped_ring : ErrF K mg "Stopped" "ring") (x_fld_Stuck_at : ErrF K mg "Stuck" "at") (x_fld_Stuck_store : ErrF K mg "Stuck" "store") (x_fld_Stuck_work : ErrF K mg "Stuck" "work") (x_fld_TooLong_turns : ErrF K mg "TooLong" "turns") (x_fld_TooMany_many : ErrF K mg "TooMany" "many") (x_fld_Unlike_work : ErrF K mg "Unlike" "work") : FO P w K mg base 1 "_law_fields" ["_law_held", "_law_which"] F__law_fields :=
  fo_mk (n := 2) F sc__law_fields hm (F.binds (ps := ["_law_held", "_law_which"]) (fun _ _ _ _ _ _ us hl => match us, hl with | [_, _], _ => rfl)) rfl rfl fun cdv A outer s H E hr => by
    unfold b__law_fields
    exact dss_cons (ds_if (dt_cmp (op_inD' (room65 hr)) okIn (de_var 1) (de_tup (da_cons (de_int) (da_cons (de_int) (da_cons (de_int) (da_nil)))))) (dss_cons (ds_if (dt_cmp (op_eqD hr.units) okEq (de_var 1) (de_int)) (dss_one (ds_ret (de_tup (da_cons (de_fldX (tbl := ["NoNet"]) (List.forall_mem_cons.mpr ⟨x_fld_NoNet_why, List.forall_mem_nil _⟩) (de_var 0)) (da_nil))))) (dss_nil))
        (dss_one (ds_ret (de_tup (da_cons (de_fldX (tbl := ["NoCoins", "NoText", "Stuck"]) (List.forall_mem_cons.mpr ⟨x_fld_NoCoins_at, (List.forall_mem_cons.mpr ⟨x_fld_NoText_at, (List.forall_mem_cons.mpr ⟨x_fld_Stuck_at, List.forall_mem_nil _⟩)⟩)⟩) (de_var 0)) (da_nil)))))) (dss_nil))
        (dss_cons (ds_if (dt_cmp (op_eqD hr.units) okEq (de_var 1) (de_int)) (dss_one (ds_ret (de_tup (da_cons (de_fldX (tbl := ["NoCoins", "NoText", "Stuck"]) (List.forall_mem_cons.mpr ⟨x_fld_NoCoins_at, (List.forall_mem_cons.mpr ⟨x_fld_NoText_at, (List.forall_mem_cons.mpr ⟨x_fld_Stuck_at, List.forall_mem_nil _⟩)⟩)⟩) (de_var 0)) (da_cons (de_fldX (tbl := ["NoWork", "Stuck", "Unlike"]) (List.forall_mem_cons.mpr ⟨x_fld_NoWork_work, (List.forall_mem_cons.mpr ⟨x_fld_Stuck_work, (List.forall_mem_cons.mpr ⟨x_fld_Unlike_work, List.forall_mem_nil _⟩)⟩)⟩) (de_var 0)) (da_cons (de_fldX (tbl := ["NoStore", "Stuck"]) (List.forall_mem_cons.mpr ⟨x_fld_NoStore_store, (List.forall_mem_cons.mpr ⟨x_fld_Stuck_store, List.forall_mem_nil _⟩)⟩) (de_var 0)) (da_nil))))))) (dss_nil))
        (dss_cons (ds_if (dt_cmp (op_inD' (room65 hr)) okIn (de_var 1) (de_tup (da_cons (de_int) (da_cons (de_int) (da_nil))))) (dss_one (ds_ret (de_tup (da_cons (de_fldX (tbl := ["NoWork", "Stuck", "Unlike"]) (List.forall_mem_cons.mpr ⟨x_fld_NoWork_work, (List.forall_mem_cons.mpr ⟨x_fld_Stuck_work, (List.forall_mem_cons.mpr ⟨x_fld_Unlike_work, List.forall_mem_nil _⟩)⟩)⟩) (de_var 0)) (da_nil))))) (dss_nil))
        (dss_cons (ds_if (dt_cmp (op_inD' (room65 hr)) okIn (de_var 1) (de_tup (da_cons (de_int) (da_cons (de_int) (da_nil))))) (dss_one (ds_ret (de_tup (da_cons (de_fldX (tbl := ["NoPart", "TooMany"]) (List.forall_mem_cons.mpr ⟨x_fld_NoPart_many, (List.forall_mem_cons.mpr ⟨x_fld_TooMany_many, List.forall_mem_nil _⟩)⟩) (de_var 0)) (da_nil))))) (dss_nil))
        (dss_cons (ds_if (dt_cmp (op_eqD hr.units) okEq (de_var 1) (de_int)) (dss_one (ds_ret (de_tup (da_cons (de_fldX (tbl := ["Stopped"]) (List.forall_mem_cons.mpr ⟨x_fld_Stopped_ring, List.forall_mem_nil _⟩) (de_var 0)) (da_nil))))) (dss_nil))
        (dss_cons (ds_if (dt_cmp (op_eqD hr.units) okEq (de_var 1) (de_int)) (dss_one (ds_ret (de_tup (da_cons (de_fldX (tbl := ["NoStore", "Stuck"]) (List.forall_mem_cons.mpr ⟨x_fld_NoStore_store, (List.forall_mem_cons.mpr ⟨x_fld_Stuck_store, List.forall_mem_nil _⟩)⟩) (de_var 0)) (da_nil))))) (dss_nil))
        (dss_cons (ds_if (dt_cmp (op_eqD hr.units) okEq (de_var 1) (de_int)) (dss_one (ds_ret (de_tup (da_cons (de_fldX (tbl := ["TooLong"]) (List.forall_mem_cons.mpr ⟨x_fld_TooLong_turns, List.forall_mem_nil _⟩) (de_var 0)) (da_nil))))) (dss_nil))
        (dss_cons (ds_if (dt_cmp (op_eqD hr.units) okEq (de_var 1) (de_int)) (dss_one (ds_ret (de_tup (da_cons (de_fldX (tbl := ["NoName"]) (List.forall_mem_cons.mpr ⟨x_fld_NoName_name, List.forall_mem_nil _⟩) (de_var 0)) (da_nil))))) (dss_nil))
        (dss_one (ds_ret (de_tup (da_nil)))))))))))
abbrev s__law_take : Stmt := topS 19
abbrev N__law_take : List Str := ["_law_pool_here", "_law_wide", "_law_found", "_law_primes", "_law_one", "_law_two"]
theorem sc__law_take : FnScope N__law_take ["_law_pool_here", "_law_wide"] (defScope s__law_take) := ⟨rfl, rfl, rfl, by decide +kernel, rfl, by decide +kernel, by decide +kernel⟩
def b__law_take : SS := sSeq (sIf (bVal (vBin gGt (vBin gIx (vVar 0) (vC (.int 0))) (vC (.int 0)))) (sSeq (sSet 2 (vBin gMod (vBin gIx (vVar 0) (vC (.int 0))) (vVar 1)))
        (sSeq (sSetIx 0 (vC (.int 0)) (vBin gFdiv (vBin gIx (vVar 0) (vC (.int 0))) (vVar 1)))
        (sRet (vVar 2)))) (sNil))
        (sSeq (sSetIx 0 (vC (.int 3)) (vBin gAdd (vBin gIx (vVar 0) (vC (.int 3))) (vC (.int 1))))
        (sSeq (sSet 3 (vLst (vCons (vC (.int 2147483629)) (vCons (vC (.int 2147483587)) (vCons (vC (.int 2147483579)) (vCons (vC (.int 2147483563)) (vCons (vC (.int 2147483549)) (vCons (vC (.int 2147483543)) (vCons (vC (.int 2147483497)) (vCons (vC (.int 2147483489)) (vNil)))))))))))
        (sSeq (sSet 4 (vBin gMod (vBin gAdd (vBin gAdd (vBin gAdd (vBin gIx (vVar 0) (vC (.int 1))) (vBin gMul (vC (.int 7919)) (vBin gIx (vVar 0) (vC (.int 2))))) (vBin gMul (vC (.int 104729)) (vBin gIx (vVar 0) (vC (.int 3))))) (vC (.int 13))) (vC (.int 2147483647))))
        (sSeq (sSet 4 (vBin gMod (vBin gPow (vVar 4) (vC (.int 5))) (vBin gIx (vVar 3) (vBin gMod (vBin gIx (vVar 0) (vC (.int 3))) (vC (.int 8))))))
        (sSeq (sSet 5 (vBin gMod (vBin gAdd (vBin gAdd (vVar 4) (vBin gMul (vC (.int 40692)) (vBin gIx (vVar 0) (vC (.int 2))))) (vBin gIx (vVar 0) (vC (.int 3)))) (vC (.int 2147483647))))
        (sRet (vBin gMod (vBin gAdd (vBin gMul (vBin gMod (vBin gPow (vVar 5) (vC (.int 5))) (vC (.int 2147483647))) (vC (.int 1000000007))) (vVar 4)) (vVar 1))))))))
def F__law_take : FSem := ⟨[.pin, .lend], bodyRun 6 b__law_take⟩
theorem run__law_take (e : Ev) : F__law_take.run e = bodyRun 6 b__law_take e := rfl
theorem modes__law_take : F__law_take.modes = [.pin, .lend] := rfl
theorem ok__law_take {f : Addr} {fd : FuncData} (F : Fun K "_law_take" "_law_take" s__law_take f fd) (hm : mg "_law_take" = some (.ref f))  : FO P w K mg base 1 "_law_take" ["_law_pool_here", "_law_wide"] F__law_take :=
  fo_mk (n := 2) F sc__law_take hm (F.binds (ps := ["_law_pool_here", "_law_wide"]) (fun _ _ _ _ _ _ us hl => match us, hl with | [_, _], _ => rfl)) rfl rfl fun cdv A outer s H E hr => by
    unfold b__law_take
    exact dss_cons (ds_if (dt_cmp op_gt okGt (de_ix ix_seq okIx (de_var 0) (de_int)) (de_int)) (dss_cons (ds_set 2 sc__law_take.nd (de_op op_mod okMod (de_ix ix_seq okIx (de_var 0) (de_int)) (de_var 1)))
        (dss_cons (ds_setIx 0 (de_op op_fdivW okFdiv (de_ix ix_seq okIx (de_var 0) (de_int)) (de_var 1)) (de_int))
        (dss_one (ds_ret (de_var 2))))) (dss_nil))
        (dss_cons (ds_setIx 0 (de_op op_addD okAdd (de_ix ix_seq okIx (de_var 0) (de_int)) (de_int)) (de_int))
        (dss_cons (ds_set 3 sc__law_take.nd (de_lst (da_cons (de_int) (da_cons (de_int) (da_cons (de_int) (da_cons (de_int) (da_cons (de_int) (da_cons (de_int) (da_cons (de_int) (da_cons (de_int) (da_nil)))))))))))
        (dss_cons (ds_set 4 sc__law_take.nd (de_op op_mod okMod (de_op op_addD okAdd (de_op op_addD okAdd (de_op op_addD okAdd (de_ix ix_seq okIx (de_var 0) (de_int)) (de_op op_mulD okMul (de_int) (de_ix ix_seq okIx (de_var 0) (de_int)))) (de_op op_mulD okMul (de_int) (de_ix ix_seq okIx (de_var 0) (de_int)))) (de_int)) (de_int)))
        (dss_cons (ds_set 4 sc__law_take.nd (de_op op_mod okMod (de_op op_pow okPow (de_var 4) (de_int)) (de_ix ix_seq okIx (de_var 3) (de_op op_mod okMod (de_ix ix_seq okIx (de_var 0) (de_int)) (de_int)))))
        (dss_cons (ds_set 5 sc__law_take.nd (de_op op_mod okMod (de_op op_addD okAdd (de_op op_addD okAdd (de_var 4) (de_op op_mulD okMul (de_int) (de_ix ix_seq okIx (de_var 0) (de_int)))) (de_ix ix_seq okIx (de_var 0) (de_int))) (de_int)))
        (dss_one (ds_ret (de_op op_mod okMod (de_op op_addD okAdd (de_op op_mulD okMul (de_op op_mod okMod (de_op op_pow okPow (de_var 5) (de_int)) (de_int)) (de_int)) (de_var 4)) (de_var 1)))))))))
abbrev s__law_thing : Stmt := topS 21
abbrev N__law_thing : List Str := ["_law_pool_here", "_law_way", "_law_far", "_law_letters", "_law_k"]
theorem sc__law_thing : FnScope N__law_thing ["_law_pool_here"] (defScope s__law_thing) := ⟨rfl, rfl, rfl, by decide +kernel, rfl, by decide +kernel, by decide +kernel⟩
def b__law_thing : SS := sSeq (sSet 1 (vCall F__law_take (vCons (vVar 0) (vCons (vC (.int 4)) (vNil)))))
        (sSeq (sSet 2 (vCall F__law_take (vCons (vVar 0) (vCons (vBin gPow (vC (.int 10)) (vC (.int 40))) (vNil)))))
        (sSeq (sIf (bVal (vBin gLt (vVar 1) (vC (.int 2)))) (sRet (vBin gMul (vVar 2) (vBin gSub (vC (.int 1)) (vBin gMul (vC (.int 2)) (vVar 1))))) (sNil))
        (sSeq (sIf (bVal (vBin gEq (vVar 1) (vC (.int 2)))) (sRet (vCB gTuple (vCons (vComp (iRange1 (vCons (vCall F__law_take (vCons (vVar 0) (vCons (vC (.int 5)) (vNil)))) (vNil))) [4] (gNm 4) (bYes) (vCall F__law_take (vCons (vVar 0) (vCons (vC (.int 100)) (vNil))))) (vNil)))) (sNil))
        (sSeq (sSet 3 (vC (.str "abcdefghijklmnopqrstuvwxyzABCDEFGHIJKLMNOPQRSTUVWXYZ 0123456789.-")))
        (sRet (vM1 gJoin (vC (.str "")) (vComp (iRange1 (vCons (vCall F__law_take (vCons (vVar 0) (vCons (vC (.int 9)) (vNil)))) (vNil))) [4] (gNm 4) (bYes) (vBin gIxS (vVar 3) (vCall F__law_take (vCons (vVar 0) (vCons (vCB gLenS (vCons (vVar 3) (vNil))) (vNil))))))))))))
def F__law_thing : FSem := ⟨[.pin], bodyRun 5 b__law_thing⟩
theorem run__law_thing (e : Ev) : F__law_thing.run e = bodyRun 5 b__law_thing e := rfl
theorem modes__law_thing : F__law_thing.modes = [.pin] := rfl
theorem ok__law_thing {f : Addr} {fd : FuncData} (F : Fun K "_law_thing" "_law_thing" s__law_thing f fd) (hm : mg "_law_thing" = some (.ref f)) (m_len : mg "len" = none) (m_range : mg "range" = none) (m_tuple : mg "tuple" = none) (G__law_take : FO P w K mg base 1 "_law_take" ["_law_pool_here", "_law_wide"] F__law_take) : FO P w K mg base 2 "_law_thing" ["_law_pool_here"] F__law_thing :=
  fo_mk (n := 1) F sc__law_thing hm (F.binds (ps := ["_law_pool_here"]) (fun _ _ _ _ _ _ us hl => match us, hl with | [_], _ => rfl)) rfl rfl fun cdv A outer s H E hr => by
    unfold b__law_thing
    exact dss_cons (ds_set 1 sc__law_thing.nd (de_callF G__law_take (hr.mono (by decide)) (L2N.takes_of rfl rfl rfl rfl) (da_cons (de_var 0) (da_cons (de_int) (da_nil)))))
        (dss_cons (ds_set 2 sc__law_thing.nd (de_callF G__law_take (hr.mono (by decide)) (L2N.takes_of rfl rfl rfl rfl) (da_cons (de_var 0) (da_cons (de_op op_pow okPow (de_int) (de_int)) (da_nil)))))
        (dss_cons (ds_if (dt_cmp op_lt okLt (de_var 1) (de_int)) (dss_one (ds_ret (de_op op_mulD okMul (de_var 2) (de_op op_sub okSub (de_int) (de_op op_mulD okMul (de_int) (de_var 1)))))) (dss_nil))
        (dss_cons (ds_if (dt_cmp (op_eqD hr.units) okEq (de_var 1) (de_int)) (dss_one (ds_ret (de_callTy call_tuple_ofF okTuple m_tuple (da_cons (de_comp [("_law_k", 4)] rfl sc__law_thing.nd (di_range1 m_range (da_cons (de_callF G__law_take (hr.mono (by decide)) (L2N.takes_of rfl rfl rfl rfl) (da_cons (de_var 0) (da_cons (de_int) (da_nil)))) (da_nil))) (blkOk_by (N := N__law_thing) (sc := (defScope s__law_thing)) (by decide +kernel)) (fun _ _ _ _ _ => dg_name 4 sc__law_thing.nd) (fun _ _ _ _ _ => dts_nil) (fun _ _ _ _ _ => de_callF G__law_take (hr.mono (by decide)) (takes0N) (da_cons (de_var 0) (da_cons (de_int) (da_nil))))) (da_nil))))) (dss_nil))
        (dss_cons (ds_set 3 sc__law_thing.nd (de_str))
        (dss_one (ds_ret (de_m1 PySem.F.slot_str_join PySem.F.type_str_join mt_joinD okJoin (de_str) (de_comp [("_law_k", 4)] rfl sc__law_thing.nd (di_range1 m_range (da_cons (de_callF G__law_take (hr.mono (by decide)) (L2N.takes_of rfl rfl rfl rfl) (da_cons (de_var 0) (da_cons (de_int) (da_nil)))) (da_nil))) (blkOk_by (N := N__law_thing) (sc := (defScope s__law_thing)) (by decide +kernel)) (fun _ _ _ _ _ => dg_name 4 sc__law_thing.nd) (fun _ _ _ _ _ => dts_nil) (fun _ _ _ _ _ => de_ix ix_seq okIxS (de_var 3) (de_callF G__law_take (hr.mono (by decide)) (takes0N) (da_cons (de_var 0) (da_cons (de_callB call_lenS okLenS m_len (da_cons (de_var 3) (da_nil))) (da_nil)))))))))))))
abbrev s_law : Stmt := topS 27
abbrev N_law : List Str := ["_law_script", "_law_words", "_law_which", "_law_word", "_law_pool_here", "_law_some", "_law_first", "_law_second", "_law_size", "_law_step", "_law_k"]
theorem sc_law : FnScope N_law ["_law_script"] (defScope s_law) := ⟨rfl, rfl, rfl, by decide +kernel, rfl, by decide +kernel, by decide +kernel⟩
def b_law : SS := sSeq (sSet 1 (vC (.str "NoNet NoText Stuck Unlike Stopped NoStore NoPart TooMany TooLong NoCoins NoWork NoName")))
        (sSeq (sSet 1 (vBin gAddS (vVar 1) (vC (.str " NothingDone NothingUndone NoLine"))))
        (sSeq (sFor (iEnum (vCons (vM1 gSplit (vVar 1) (vC (.str " "))) (vNil))) (gTp [gNm 2, gNm 3]) (sSeq (sSet 4 (vCall F__law_pool (vCons (vVar 0) (vCons (vVar 2) (vNil)))))
        (sSeq (sSet 5 (vComp (iRange1 (vCons (vC (.int 2)) (vNil))) [9] (gNm 9) (bYes) (vComp (iRange1 (vCons (vC (.int 3)) (vNil))) [10] (gNm 10) (bYes) (vCall F__law_thing (vCons (vVar 4) (vNil))))))
        (sSeq (sSet 6 (vCall F__law_caught (vCons (vVar 2) (vCons (vBin gIx (vVar 5) (vC (.int 0))) (vCons (vC (.bl false)) (vNil))))))
        (sSeq (sSet 7 (vCall F__law_caught (vCons (vVar 2) (vCons (vBin gIx (vVar 5) (vC (.int 1))) (vCons (vC (.bl true)) (vNil))))))
        (sSeq (sSet 8 (vBin gMul (vBin gIx (vLst (vCons (vC (.int 1)) (vCons (vC (.int 3)) (vNil)))) (vCB gInt1 (vCons (vBin gEq (vVar 2) (vC (.int 2))) (vNil)))) (vCB gInt1 (vCons (vBin gLt (vVar 2) (vC (.int 12))) (vNil)))))
        (sSeq (sIf (bOr (bVal (vBin gNe (vBin gIx (vVar 6) (vC (.int 1))) (vVar 3))) (bVal (vBin gNe (vBin gIx (vVar 7) (vC (.int 1))) (vVar 3)))) (sRet (vC (.bl false))) (sNil))
        (sSeq (sIf (bVal (vBin gNe (vCall F__law_fields (vCons (vBin gIx (vVar 6) (vC (.int 0))) (vCons (vVar 2) (vNil)))) (vCB gTuple (vCons (vSl (vBin gIx (vVar 5) (vC (.int 0))) (oNo) (oSome (vVar 8))) (vNil))))) (sRet (vC (.bl false))) (sNil))
        (sIf (bVal (vBin gNe (vCall F__law_fields (vCons (vBin gIx (vVar 7) (vC (.int 0))) (vCons (vVar 2) (vNil)))) (vCB gTuple (vCons (vSl (vBin gIx (vVar 5) (vC (.int 1))) (oNo) (oSome (vVar 8))) (vNil))))) (sRet (vC (.bl false))) (sNil))))))))))
        (sRet (vC (.bl true)))))
def F_law : FSem := ⟨[.lend], bodyRun 11 b_law⟩
theorem run_law (e : Ev) : F_law.run e = bodyRun 11 b_law e := rfl
theorem ok_law {f : Addr} {fd : FuncData} (F : Fun K "law" "law" s_law f fd) (hm : mg "law" = some (.ref f)) (m_enumerate : mg "enumerate" = none) (m_int : mg "int" = none) (m_range : mg "range" = none) (m_tuple : mg "tuple" = none) (G__law_pool : FO P w K mg base 1 "_law_pool" ["_law_script", "_law_k"] F__law_pool) (G__law_thing : FO P w K mg base 2 "_law_thing" ["_law_pool_here"] F__law_thing) (G__law_caught : FO P w K mg base 4 "_law_caught" ["_law_which", "_law_things", "_law_named"] F__law_caught) (G__law_fields : FO P w K mg base 1 "_law_fields" ["_law_held", "_law_which"] F__law_fields) : FnOk P w K mg base (L2N.CX P w) 5 f fd ["_law_script"] (spF ⟨K, mg, P, w⟩ 1 F_law.run) :=
  fn_mk (n := 1) F sc_law rfl rfl fun cdv A outer s H E hr => by
    unfold b_law
    exact dss_cons (ds_set 1 sc_law.nd (de_str))
        (dss_cons (ds_set 1 sc_law.nd (de_op op_addS okAddS (de_var 1) (de_str)))
        (dss_cons (ds_for (passes_of rfl) rfl (di_enum m_enumerate (da_cons (de_m1 PySem.F.slot_str_split PySem.F.type_str_split mt_splitD okSplit (de_var 1) (de_str)) (da_nil))) (dg_tup rfl (dgs_cons (dg_name 2 sc_law.nd) (dgs_cons (dg_name 3 sc_law.nd) (dgs_nil)))) (dss_cons (ds_set 4 sc_law.nd (de_callF G__law_pool (hr.mono (by decide)) (L2N.takes_of rfl rfl rfl rfl) (da_cons (de_var 0) (da_cons (de_var 2) (da_nil)))))
        (dss_cons (ds_setC 5 [("_law_step", 9)] rfl sc_law.nd (di_range1 m_range (da_cons (de_int) (da_nil))) (blkOk_by (N := N_law) (sc := (defScope s_law)) (by decide +kernel)) (fun _ _ _ _ _ => dg_name 9 sc_law.nd) (fun _ _ _ _ _ => dts_nil) (fun _ _ _ _ _ => de_comp [("_law_k", 10)] rfl sc_law.nd (di_range1 m_range (da_cons (de_int) (da_nil))) (blkOk_by (N := N_law) (sc := (relS _ (defScope s_law))) (by decide +kernel)) (fun _ _ _ _ _ => dg_name 10 sc_law.nd) (fun _ _ _ _ _ => dts_nil) (fun _ _ _ _ _ => de_callF G__law_thing (hr.mono (by decide)) (takes0N) (da_cons (de_var 4) (da_nil)))))
        (dss_cons (ds_set 6 sc_law.nd (de_callF G__law_caught (hr.mono (by decide)) (L2N.takes_of rfl rfl rfl rfl) (da_cons (de_var 2) (da_cons (de_ix ix_seq okIx (de_var 5) (de_int)) (da_cons (de_bl) (da_nil))))))
        (dss_cons (ds_set 7 sc_law.nd (de_callF G__law_caught (hr.mono (by decide)) (L2N.takes_of rfl rfl rfl rfl) (da_cons (de_var 2) (da_cons (de_ix ix_seq okIx (de_var 5) (de_int)) (da_cons (de_bl) (da_nil))))))
        (dss_cons (ds_set 8 sc_law.nd (de_op op_mulD okMul (de_ix ix_seq okIx (de_lst (da_cons (de_int) (da_cons (de_int) (da_nil)))) (de_callTy call_int1 okInt1 m_int (da_cons (de_cmp (op_eqD hr.units) okEq (de_var 2) (de_int)) (da_nil)))) (de_callTy call_int1 okInt1 m_int (da_cons (de_cmp op_lt okLt (de_var 2) (de_int)) (da_nil)))))
        (dss_cons (ds_if ((dw_or (dt_cmp (op_neD hr.units) okNe (de_ix ix_seq okIx (de_var 6) (de_int)) (de_var 3)) (dw_or1 (dt_cmp (op_neD hr.units) okNe (de_ix ix_seq okIx (de_var 7) (de_int)) (de_var 3)))).dt) (dss_one (ds_ret (de_bl))) (dss_nil))
        (dss_cons (ds_if (dt_cmp (op_neD hr.units) okNe (de_callF G__law_fields (hr.mono (by decide)) (L2N.takes_of rfl rfl rfl rfl) (da_cons (de_ix ix_seq okIx (de_var 6) (de_int)) (da_cons (de_var 2) (da_nil)))) (de_callTy call_tuple_ofF okTuple m_tuple (da_cons (de_slice (de_ix ix_seq okIx (de_var 5) (de_int)) (do_no) (do_some (de_var 8))) (da_nil)))) (dss_one (ds_ret (de_bl))) (dss_nil))
        (dss_one (ds_if (dt_cmp (op_neD hr.units) okNe (de_callF G__law_fields (hr.mono (by decide)) (L2N.takes_of rfl rfl rfl rfl) (da_cons (de_ix ix_seq okIx (de_var 7) (de_int)) (da_cons (de_var 2) (da_nil)))) (de_callTy call_tuple_ofF okTuple m_tuple (da_cons (de_slice (de_ix ix_seq okIx (de_var 5) (de_int)) (do_no) (do_some (de_var 8))) (da_nil)))) (dss_one (ds_ret (de_bl))) (dss_nil)))))))))))
        (dss_one (ds_ret (de_bl)))))
end
section
variable {P : Program} {w : World} {K : PySem.W.Frag} {mg : Str → Option Value} {h : Heap}
theorem all_ok {fa : Addr} (m_ValueError : mg "ValueError" = none) (m_abs : mg "abs" = none) (m_enumerate : mg "enumerate" = none) (m_int : mg "int" = none) (m_isinstance : mg "isinstance" = none) (m_len : mg "len" = none) (m_range : mg "range" = none) (m_str : mg "str" = none) (m_tuple : mg "tuple" = none) (x_catch_RingError_NoCoins_NoLine_NoName_NoNet_NoPart_NoStore_NoText_NoWork_NothingDone_NothingUndone_Stopped_Stuck_TooLong_TooMany_Unlike : Catch K mg "RingError" [("NoCoins", true), ("NoLine", true), ("NoName", true), ("NoNet", true), ("NoPart", true), ("NoStore", true), ("NoText", true), ("NoWork", true), ("NothingDone", true), ("NothingUndone", true), ("Stopped", true), ("Stuck", true), ("TooLong", true), ("TooMany", true), ("Unlike", true)]) (x_err0_NoLine : ErrOk0 K mg "NoLine") (x_err0_NothingDone : ErrOk0 K mg "NothingDone") (x_err0_NothingUndone : ErrOk0 K mg "NothingUndone") (x_fld_NoCoins_at : ErrF K mg "NoCoins" "at") (x_fld_NoName_name : ErrF K mg "NoName" "name") (x_fld_NoNet_why : ErrF K mg "NoNet" "why") (x_fld_NoPart_many : ErrF K mg "NoPart" "many") (x_fld_NoStore_store : ErrF K mg "NoStore" "store") (x_fld_NoText_at : ErrF K mg "NoText" "at") (x_fld_NoWork_work : ErrF K mg "NoWork" "work") (x_fld_Stopped_ring : ErrF K mg "Stopped" "ring") (x_fld_Stuck_at : ErrF K mg "Stuck" "at") (x_fld_Stuck_store : ErrF K mg "Stuck" "store") (x_fld_Stuck_work : ErrF K mg "Stuck" "work") (x_fld_TooLong_turns : ErrF K mg "TooLong" "turns") (x_fld_TooMany_many : ErrF K mg "TooMany" "many") (x_fld_Unlike_work : ErrF K mg "Unlike" "work") (H_RE : RErr K mg) (H_K : HasKinds K mg ["NoCoins", "NoLine", "NoName", "NoNet", "NoPart", "NoStore", "NoText", "NoWork", "NothingDone", "NothingUndone", "Stopped", "Stuck", "TooLong", "TooMany", "Unlike"]) (H_err_NoNet : HasErr K mg "NoNet" ["why"] "NoNet.__init__" s_NoNet_init) (H_err_NoText : HasErr K mg "NoText" ["at"] "NoText.__init__" s_NoText_init) (H_err_Stuck : HasErr K mg "Stuck" ["at", "work", "store"] "Stuck.__init__" s_Stuck_init) (H_err_Unlike : HasErr K mg "Unlike" ["work"] "Unlike.__init__" s_Unlike_init) (H_err_Stopped : HasErr K mg "Stopped" ["ring"] "Stopped.__init__" s_Stopped_init) (H_err_NoStore : HasErr K mg "NoStore" ["store"] "NoStore.__init__" s_NoStore_init) (H_err_NoPart : HasErr K mg "NoPart" ["many"] "NoPart.__init__" s_NoPart_init) (H_err_TooMany : HasErr K mg "TooMany" ["many"] "TooMany.__init__" s_TooMany_init) (H_err_TooLong : HasErr K mg "TooLong" ["turns"] "TooLong.__init__" s_TooLong_init) (H_err_NoCoins : HasErr K mg "NoCoins" ["at"] "NoCoins.__init__" s_NoCoins_init) (H_err_NoWork : HasErr K mg "NoWork" ["work"] "NoWork.__init__" s_NoWork_init) (H_err_NoName : HasErr K mg "NoName" ["name"] "NoName.__init__" s_NoName_init) (H__law_pool : HasFn K mg "_law_pool" "_law_pool" s__law_pool) (H__law_raised : HasFn K mg "_law_raised" "_law_raised" s__law_raised) (H__law_raised_of_text : HasFn K mg "_law_raised_of_text" "_law_raised_of_text" s__law_raised_of_text) (H__law_raised_by_names : HasFn K mg "_law_raised_by_names" "_law_raised_by_names" s__law_raised_by_names) (H__law_sorts : HasFn K mg "_law_sorts" "_law_sorts" s__law_sorts) (H__law_caught : HasFn K mg "_law_caught" "_law_caught" s__law_caught) (H__law_fields : HasFn K mg "_law_fields" "_law_fields" s__law_fields) (H__law_take : HasFn K mg "_law_take" "_law_take" s__law_take) (H__law_thing : HasFn K mg "_law_thing" "_law_thing" s__law_thing) (H_law : HasFn K mg "law" "law" s_law) (hfa : mg "law" = some (.ref fa)) (yes : Yes F_law) :
    ∃ fd : FuncData, (∀ (s : Shared) (u : Value), BindsTo s fd ⟨[u], []⟩ [("_law_script", u)]) ∧ ∀ base : Heap, K.In base → base.Ns mainGlobals mg → FnOk P w K mg base (L2N.CX P w) 5 fa fd ["_law_script"] (spL K) := by
  obtain ⟨a__law_pool, d__law_pool, e__law_pool, f__law_pool⟩ := H__law_pool
  obtain ⟨a__law_raised, d__law_raised, e__law_raised, f__law_raised⟩ := H__law_raised
  obtain ⟨a__law_raised_of_text, d__law_raised_of_text, e__law_raised_of_text, f__law_raised_of_text⟩ := H__law_raised_of_text
  obtain ⟨a__law_raised_by_names, d__law_raised_by_names, e__law_raised_by_names, f__law_raised_by_names⟩ := H__law_raised_by_names
  obtain ⟨a__law_sorts, d__law_sorts, e__law_sorts, f__law_sorts⟩ := H__law_sorts
  obtain ⟨a__law_caught, d__law_caught, e__law_caught, f__law_caught⟩ := H__law_caught
  obtain ⟨a__law_fields, d__law_fields, e__law_fields, f__law_fields⟩ := H__law_fields
  obtain ⟨a__law_take, d__law_take, e__law_take, f__law_take⟩ := H__law_take
  obtain ⟨a__law_thing, d__law_thing, e__law_thing, f__law_thing⟩ := H__law_thing
  refine fo_law H_law hfa (fun f fd F s u => by obtain ⟨_, _, _, _, _, _, _, _, _, e, _⟩ := F.ex; subst e; exact .of_eq rfl) (fun base f fd hm F => ?_) yes
  have G_err_NoNet : ErrOk P w K mg base 1 "NoNet" ["why"] ∧ ErrOkK P w K mg base 1 "NoNet" ["why"] ["why"] [0] := ok_err_NoNet H_err_NoNet H_RE
  have G_err_NoText : ErrOk P w K mg base 1 "NoText" ["at"] ∧ ErrOkK P w K mg base 1 "NoText" ["at"] ["at"] [0] := ok_err_NoText H_err_NoText H_RE
  have G_err_Stuck : ErrOk P w K mg base 1 "Stuck" ["at", "work", "store"] ∧ ErrOkK P w K mg base 1 "Stuck" ["at", "work", "store"] ["store", "at", "work"] [1, 2, 0] := ok_err_Stuck H_err_Stuck H_RE
  have G_err_Unlike : ErrOk P w K mg base 1 "Unlike" ["work"] ∧ ErrOkK P w K mg base 1 "Unlike" ["work"] ["work"] [0] := ok_err_Unlike H_err_Unlike H_RE
  have G_err_Stopped : ErrOk P w K mg base 1 "Stopped" ["ring"] ∧ ErrOkK P w K mg base 1 "Stopped" ["ring"] ["ring"] [0] := ok_err_Stopped H_err_Stopped H_RE
  have G_err_NoStore : ErrOk P w K mg base 1 "NoStore" ["store"] ∧ ErrOkK P w K mg base 1 "NoStore" ["store"] ["store"] [0] := ok_err_NoStore H_err_NoStore H_RE
  have G_err_NoPart : ErrOk P w K mg base 1 "NoPart" ["many"] ∧ ErrOkK P w K mg base 1 "NoPart" ["many"] ["many"] [0] := ok_err_NoPart H_err_NoPart H_RE
  have G_err_TooMany : ErrOk P w K mg base 1 "TooMany" ["many"] ∧ ErrOkK P w K mg base 1 "TooMany" ["many"] ["many"] [0] := ok_err_TooMany H_err_TooMany H_RE
  have G_err_TooLong : ErrOk P w K mg base 1 "TooLong" ["turns"] ∧ ErrOkK P w K mg base 1 "TooLong" ["turns"] ["turns"] [0] := ok_err_TooLong H_err_TooLong H_RE
  have G_err_NoCoins : ErrOk P w K mg base 1 "NoCoins" ["at"] ∧ ErrOkK P w K mg base 1 "NoCoins" ["at"] ["at"] [0] := ok_err_NoCoins H_err_NoCoins H_RE
  have G_err_NoWork : ErrOk P w K mg base 1 "NoWork" ["work"] ∧ ErrOkK P w K mg base 1 "NoWork" ["work"] ["work"] [0] := ok_err_NoWork H_err_NoWork H_RE
  have G_err_NoName : ErrOk P w K mg base 1 "NoName" ["name"] ∧ ErrOkK P w K mg base 1 "NoName" ["name"] ["name"] [0] := ok_err_NoName H_err_NoName H_RE
  have G__law_pool : FO P w K mg base 1 "_law_pool" ["_law_script", "_law_k"] F__law_pool := ok__law_pool f__law_pool e__law_pool m_abs m_len
  have G__law_raised : FO P w K mg base 3 "_law_raised" ["_law_which", "_law_a", "_law_b", "_law_c"] F__law_raised := ok__law_raised f__law_raised e__law_raised G_err_NoNet G_err_NoText G_err_Stuck G_err_Unlike G_err_Stopped G_err_NoStore G_err_NoPart G_err_TooMany G_err_TooLong G_err_NoCoins G_err_NoWork G_err_NoName
  have G__law_raised_of_text : FO P w K mg base 1 "_law_raised_of_text" ["_law_which", "_law_text"] F__law_raised_of_text := ok__law_raised_of_text f__law_raised_of_text e__law_raised_of_text x_err0_NoLine x_err0_NothingDone x_err0_NothingUndone
  have G__law_raised_by_names : FO P w K mg base 3 "_law_raised_by_names" ["_law_which", "_law_a", "_law_b", "_law_c"] F__law_raised_by_names := ok__law_raised_by_names f__law_raised_by_names e__law_raised_by_names G_err_NoNet G_err_NoText G_err_Stuck G_err_Unlike G_err_Stopped G_err_NoStore G_err_NoPart G_err_TooMany G_err_TooLong G_err_NoCoins G_err_NoWork G_err_NoName
  have G__law_sorts : SortOk P w K mg base 1 "_law_sorts" ["_law_e"] ["NoCoins", "NoLine", "NoName", "NoNet", "NoPart", "NoStore", "NoText", "NoWork", "NothingDone", "NothingUndone", "Stopped", "Stuck", "TooLong", "TooMany", "Unlike"] := ok__law_sorts f__law_sorts e__law_sorts H_K m_isinstance m_ValueError
  have G__law_caught : FO P w K mg base 4 "_law_caught" ["_law_which", "_law_things", "_law_named"] F__law_caught := ok__law_caught f__law_caught e__law_caught m_str x_catch_RingError_NoCoins_NoLine_NoName_NoNet_NoPart_NoStore_NoText_NoWork_NothingDone_NothingUndone_Stopped_Stuck_TooLong_TooMany_Unlike G__law_raised_by_names G__law_raised G__law_raised_of_text G__law_sorts
  have G__law_fields : FO P w K mg base 1 "_law_fields" ["_law_held", "_law_which"] F__law_fields := ok__law_fields f__law_fields e__law_fields x_fld_NoCoins_at x_fld_NoName_name x_fld_NoNet_why x_fld_NoPart_many x_fld_NoStore_store x_fld_NoText_at x_fld_NoWork_work x_fld_Stopped_ring x_fld_Stuck_at x_fld_Stuck_store x_fld_Stuck_work x_fld_TooLong_turns x_fld_TooMany_many x_fld_Unlike_work
  have G__law_take : FO P w K mg base 1 "_law_take" ["_law_pool_here", "_law_wide"] F__law_take := ok__law_take f__law_take e__law_take 
  have G__law_thing : FO P w K mg base 2 "_law_thing" ["_law_pool_here"] F__law_thing := ok__law_thing f__law_thing e__law_thing m_len m_range m_tuple G__law_take
  exact ok_law F hm m_enumerate m_int m_range m_tuple G__law_pool G__law_thing G__law_caught G__law_fields
end
end DV
namespace DV
open PySem PySem.Spec L2
/-! ### _law_pool -/
theorem pool_run (ns : List Int) (k : Int) (h0 : 0 ≤ k) : ∃ p, F__law_pool.run [.val (.scr (nums ns)), .val (.int k)] = .ok (.new p) [.hole, .hole] ∧ Pool p := by
  simp only [run__law_pool]
  rw [bodyRun_eq (by rfl)]
  by_cases hl : 0 < ns.length
  · have hl' : (0 : Int) < ns.length := by omega
    obtain ⟨x, hx, _, _⟩ := atI_some (xs := ns) (k := k % ns.length) (Int.emod_nonneg _ (by omega)) (Int.emod_lt_of_pos _ hl')
    have hx2 : atI (nums ns) (k % ns.length) = some (.int x) := by rw [atI_map, hx]; rfl
    have hne : ns ≠ [] := fun z => by subst z; cases hl
    have hlb : 1 ≤ ns.length := hl
    by_cases hk : k < ns.length
    · by_cases hb : 1000000000000000000 ≤ (if x < 0 then -x else x)
      · simp [b__law_pool, hl, hl', hlb, hne, gMod_eq, hx2, hk, gPow_eq, hb, Pool]
      · simp [b__law_pool, hl, hl', hlb, hne, gMod_eq, hx2, hk, gPow_eq, hb, Pool]
    · simp [b__law_pool, hl, hl', hlb, hne, gMod_eq, hx2, hk, Pool]
  · have : ns = [] := List.eq_nil_of_length_eq_zero (by omega)
    subst this
    have hk : ¬ k < 0 := by omega
    simp [b__law_pool, hk, Pool]
theorem gFdivB {a n : Int} (h : 0 < n) (h2 : n ≤ 10000000000000000000000000000000000000000) : gFdiv (.int a) (.int n) = some (.val (.int (a / n))) := by
  have : 0 < n ∧ n.natAbs.log2 < 9000 := ⟨h, (Nat.log2_lt (by omega)).mpr (Nat.lt_of_lt_of_le (show n.natAbs < 2 ^ 200 from by omega) (Nat.pow_le_pow_right (by omega) (by omega)))⟩
  unfold gFdiv gInt
  simp only [if_pos this]
  rfl
set_option maxHeartbeats 1000000 in
theorem take_run {p : List D} (hp : Pool p) {n : Int} (h : 0 < n) (h2 : n ≤ 10000000000000000000000000000000000000000) : ∃ m p', F__law_take.run [.pin p, .val (.int n)] = .ok (.val (.int m)) [.pin p', .hole] ∧ Pool p' ∧ 0 ≤ m ∧ m < n := by
  obtain ⟨a, b, c, d, rfl⟩ := hp
  simp only [run__law_take]
  simp only [bodyRun_eq (show List.all [Sl.pin [.int a, .int b, .int c, .int d], Sl.val (D.int n)] Sl.arg = true from rfl)]
  have g3 : ∀ a b c d : D, atI [a, b, c, d] 3 = some d := fun _ _ _ _ => rfl
  have g2 : ∀ a b c d : D, atI [a, b, c, d] 2 = some c := fun _ _ _ _ => rfl
  have g1 : ∀ a b c d : D, atI [a, b, c, d] 1 = some b := fun _ _ _ _ => rfl
  have g0 : ∀ a b c d : D, atI [a, b, c, d] 0 = some a := fun _ _ _ _ => rfl
  have i3 : ixN 4 3 = some 3 := rfl
  have i0 : ixN 4 0 = some 0 := rfl
  by_cases ha : 0 < a
  · simp [b__law_take, g0, g1, g2, g3, i3, i0, ha, gMod_eq, gFdivB h h2, h]
    first | exact ⟨_, _, ⟨rfl, rfl⟩, ⟨_, _, _, _, rfl⟩, Int.emod_nonneg _ (by omega), Int.emod_lt_of_pos _ h⟩ | exact ⟨_, ⟨_, _, _, _, rfl⟩, Int.emod_nonneg _ (by omega), Int.emod_lt_of_pos _ h⟩ | exact ⟨_, _, rfl, ⟨_, _, _, _, rfl⟩, Int.emod_nonneg _ (by omega), Int.emod_lt_of_pos _ h⟩
  · obtain ⟨q, hq, hq0, hq1⟩ := primes_at (d + 1)
    simp [b__law_take, g0, g1, g2, g3, i3, ha, gMod_eq, gMul_l, gMul_r, gPow_m, hq, hq0, hq1, h]
    first | exact ⟨_, _, ⟨rfl, rfl⟩, ⟨_, _, _, _, rfl⟩, Int.emod_nonneg _ (by omega), Int.emod_lt_of_pos _ h⟩ | exact ⟨_, ⟨_, _, _, _, rfl⟩, Int.emod_nonneg _ (by omega), Int.emod_lt_of_pos _ h⟩ | exact ⟨_, _, rfl, ⟨_, _, _, _, rfl⟩, Int.emod_nonneg _ (by omega), Int.emod_lt_of_pos _ h⟩
end DV
namespace DV
open PySem PySem.Spec PyProof.Rows L2
/-! ### things: whole numbers to forty figures, texts, tuples of small numbers -/
inductive Thg : D → Prop
  | int {i : Int} : i.natAbs < 10000000000000000000000000000000000000000 → Thg (.int i)
  | str {t : Str} : (∀ c ∈ t.cps.toList, c < 1000) → Thg (.str t)
  | tup {ns : List Int} : ns.length ≤ 4 → (∀ n ∈ ns, 0 ≤ n ∧ n < 100) → Thg (.tup (nums ns))
theorem shp_thg {d : D} (h : Thg d) : D.shp 7 d = true := by
  cases h with
  | int => rfl
  | str h =>
    show (PyData.str _).canLay0 = true
    unfold PyData.canLay0 PySem.PyData.strOk
    rw [← Array.all_toList, List.all_eq_true]
    intro c hc
    have := h c hc
    simp
    omega
  | tup hl h =>
    show List.all (nums _) (D.shp 6) = true
    rw [List.all_eq_true]
    intro d hd
    obtain ⟨i, _, rfl⟩ := List.mem_map.mp hd
    rfl
theorem log_small : ∀ n : Fin 100, ((n.val : Nat) : Int).natAbs.log2 < 1920 ∧ (toString ((n.val : Nat) : Int) : Str).length ≤ 2 := by decide +kernel
theorem piled_small : ∀ {ns : List Int}, (∀ n ∈ ns, 0 ≤ n ∧ n < 100) → piled (ns.map fun i => (toString i : Str)) ≤ 4 * ns.length
  | [], _ => by simp [piled]
  | n :: ns, h => by
    have ih := piled_small fun x hx => h x (List.mem_cons_of_mem _ hx)
    obtain ⟨h0, h1⟩ := h n List.mem_cons_self
    have h2 : (toString n : Str).length ≤ 2 := by
      obtain ⟨k, rfl⟩ : ∃ k : Nat, n = k := ⟨n.toNat, by omega⟩
      exact (log_small ⟨k, by omega⟩).2
    rw [List.map_cons, piled_cons, List.length_cons]
    omega
theorem strAD_thg {d : D} (h : Thg d) : strAD d = true := by
  classical
  unfold strAD
  refine @decide_eq_true _ _ ?_
  cases h with
  | @int i h =>
    refine .inl ⟨i, rfl, ?_⟩
    by_cases hz : i.natAbs = 0
    · rw [hz]; decide
    · exact (Nat.log2_lt hz).mpr (Nat.lt_of_lt_of_le (show i.natAbs < 2 ^ 200 from by omega) (Nat.pow_le_pow_right (by omega) (by omega)))
  | str h => exact .inr (.inl ⟨_, rfl⟩)
  | @tup ns hl h =>
    refine .inr (.inr ⟨ns, rfl, fun n hn => ?_, ?_⟩)
    · obtain ⟨h0, h1⟩ := h n hn
      obtain ⟨k, rfl⟩ : ∃ k : Nat, n = k := ⟨n.toNat, by omega⟩
      exact (log_small ⟨k, by omega⟩).1
    · have h1 := fmt_text (ns.map fun i => (toString i : Str))
      have h2 := piled_small h
      have h3 : sizeLine = 16777216 ∨ 100 ≤ sizeLine := .inr (by unfold sizeLine; omega)
      unfold sizeLine
      omega
/-! the signs of texts -/
def LT18 : Str := "abcdefghijklmnopqrstuvwxyzABCDEFGHIJKLMNOPQRSTUVWXYZ 0123456789.-"
theorem lt_len : LT18.length = 65 := by decide +kernel
theorem lt_all : ∀ a : Fin 65, (L2.atI LT18.cps.toList ((a.val : Nat) : Int)).any (fun c => decide (c < 1000)) = true := by decide +kernel
theorem lt_ix {a : Int} (h0 : 0 ≤ a) (h1 : a < 65) : ∃ c, c < 1000 ∧ gIxS (.str LT18) (.int a) = some (.val (.str (sgn c))) := by
  obtain ⟨k, rfl⟩ : ∃ k : Nat, a = k := ⟨a.toNat, by omega⟩
  have h := lt_all ⟨k, by omega⟩
  cases hc : L2.atI LT18.cps.toList ((k : Nat) : Int) with
  | none =>
    have h : (L2.atI LT18.cps.toList ((k : Nat) : Int)).any (fun c => decide (c < 1000)) = true := h
    rw [hc] at h
    cases h
  | some c =>
    have h : (L2.atI LT18.cps.toList ((k : Nat) : Int)).any (fun c => decide (c < 1000)) = true := h
    rw [hc] at h
    exact ⟨c, of_decide_eq_true h, gIxS_eq (z := LT18) (by rw [lt_len]; unfold TLN; omega) hc⟩
theorem mem_joinL {S : List Nat} {c : Nat} : ∀ {ps : List (List Nat)}, c ∈ _root_.TL.joinL S ps → c ∈ S ∨ ∃ p ∈ ps, c ∈ p
  | [], h => by cases h
  | [p], h => .inr ⟨p, List.mem_singleton.mpr rfl, h⟩
  | p :: q :: r, h => by
    have h : c ∈ p ++ (S ++ _root_.TL.joinL S (q :: r)) := h
    rcases List.mem_append.mp h with z | z
    · exact .inr ⟨p, List.mem_cons_self, z⟩
    · rcases List.mem_append.mp z with z | z
      · exact .inl z
      · rcases mem_joinL z with z | ⟨p', hp, hc⟩
        · exact .inl z
        · exact .inr ⟨p', List.mem_cons_of_mem _ hp, hc⟩
theorem join_sg {cs : List Nat} (hl : cs.length ≤ 8) (hc : ∀ c ∈ cs, c < 1000) : ∃ t : Str, gJoin (Str.ofString "") (.lst ((cs.map sgn).map D.str)) = some (.val (.str t)) ∧ ∀ c ∈ t.cps.toList, c < 1000 := by
  refine ⟨Str.join (Str.ofString "") (cs.map sgn), gJoin_eq rfl ?_, fun c h => ?_⟩
  · have h : (List.map (·.length) (cs.map sgn)).sum = cs.length := by
      clear hl hc
      induction cs with
      | nil => rfl
      | cons w r ih =>
        rw [List.map_cons, List.map_cons, List.sum_cons, ih, List.length_cons]
        show 1 + r.length = _
        omega
    rw [h, show (Str.ofString "").length = 0 by decide +kernel]
    unfold TLN
    omega
  · have h : c ∈ _root_.TL.tl (Str.join (Str.ofString "") (cs.map sgn)) := h
    rw [_root_.TL.tl_join, show _root_.TL.tl (Str.ofString "") = [] by decide +kernel, List.map_map] at h
    rcases mem_joinL h with z | ⟨p, hp, hcp⟩
    · cases z
    · obtain ⟨w, hw, rfl⟩ := List.mem_map.mp hp
      have : c = w := by
        have z : c ∈ [w] := hcp
        simpa using z
      subst this
      exact hc c hw
theorem thing_eq : b__law_thing = sSeq (sSet 1 (vCall F__law_take (vCons (vVar 0) (vCons (vC (.int 4)) (vNil)))))
        (sSeq (sSet 2 (vCall F__law_take (vCons (vVar 0) (vCons (vBin gPow (vC (.int 10)) (vC (.int 40))) (vNil)))))
        (sSeq (sIf (bVal (vBin gLt (vVar 1) (vC (.int 2)))) (sRet (vBin gMul (vVar 2) (vBin gSub (vC (.int 1)) (vBin gMul (vC (.int 2)) (vVar 1))))) (sNil))
        (sSeq (sIf (bVal (vBin gEq (vVar 1) (vC (.int 2)))) (sRet (vCB gTuple (vCons (vComp (iRange1 (vCons (vCall F__law_take (vCons (vVar 0) (vCons (vC (.int 5)) (vNil)))) (vNil))) [4] (gNm 4) (bYes) (vCall F__law_take (vCons (vVar 0) (vCons (vC (.int 100)) (vNil))))) (vNil)))) (sNil))
        (sSeq (sSet 3 (vC (.str LT18)))
        (sRet (vM1 gJoin (vC (.str (Str.ofString ""))) (vComp (iRange1 (vCons (vCall F__law_take (vCons (vVar 0) (vCons (vC (.int 9)) (vNil)))) (vNil))) [4] (gNm 4) (bYes) (vBin gIxS (vVar 3) (vCall F__law_take (vCons (vVar 0) (vCons (vCB gLenS (vCons (vVar 3) (vNil))) (vNil)))))))))))) := rfl
set_option maxHeartbeats 2000000 in
theorem thing_run {p : List D} (hp : Pool p) : ∃ d p', F__law_thing.run [.pin p] = .ok (.val d) [.pin p'] ∧ Pool p' ∧ Thg d := by
  rw [run__law_thing, bodyRun_eq (by rfl), thing_eq]
  have lim : LIM = 1000000 := rfl
  obtain ⟨m0, p1, ht0, hp1, a0, a1⟩ := take_run hp (n := 4) (by omega) (by omega)
  obtain ⟨m1, p2, ht1, hp2, b0, b1⟩ := take_run hp1 (n := 10000000000000000000000000000000000000000) (by omega) (by omega)
  have gp : gPow (.int 10) (.int 40) = some (.val (.int 10000000000000000000000000000000000000000)) := gPow_eq ⟨by decide, by decide, by decide⟩
  by_cases h2 : m0 < 2
  · have g1 : gMul (.int 2) (.int m0) = some (.val (.int (2 * m0))) := gMul_l (by decide) (by decide)
    have g2 : gMul (.int m1) (.int (1 - 2 * m0)) = some (.val (.int (m1 * (1 - 2 * m0)))) := gMul_r (by omega) (by omega)
    refine ⟨.int (m1 * (1 - 2 * m0)), p2, ?_, hp2, .int ?_⟩
    · simp [modes__law_take, ht0, ht1, hp1.lf, hp2.lf, gp, h2, g1, g2]
    · have : m0 = 0 ∨ m0 = 1 := by omega
      rcases this with rfl | rfl
      · rw [show m1 * (1 - 2 * 0) = m1 by omega]; omega
      · rw [show m1 * (1 - 2 * 1) = -m1 by omega]; omega
  · by_cases h3 : m0 = 2
    · subst h3
      obtain ⟨k, p3, ht3, hp3, k0, k1⟩ := take_run hp2 (n := 5) (by omega) (by omega)
      have hr : rng1 [.int k] = some ⟨rngD 0 k.toNat, []⟩ := rng1_eq (by unfold BIG; omega)
      obtain ⟨acc, e', f1, cs, p', g1, g2, g3, g4, g5⟩ := compL_ind (g := gNm 4) (c := bYes) (s := vCall F__law_take (vCons (vVar 0) (vCons (vC (.int 100)) (vNil)))) (vs := [4]) (items := rngD 0 k.toNat) (e := [.pin p3, .val (.int 2), .val (.int m1), .hole, .hole])
        (fun i acc e => ∃ (cs : List Int) (p' : List D), acc = nums cs ∧ e = [.pin p', .val (.int 2), .val (.int m1), .hole, .hole] ∧ Pool p' ∧ cs.length = i ∧ ∀ c ∈ cs, 0 ≤ c ∧ c < 100)
        ⟨[], p3, rfl, rfl, hp3, rfl, by simp⟩ (fun i d acc e hd hI => by
          obtain ⟨cs, p', rfl, rfl, q1, q2, q3⟩ := hI
          obtain ⟨hi, rfl⟩ := rngD_get hd
          obtain ⟨x, p4, ht4, hp4, x0, x1⟩ := take_run q1 (n := 100) (by omega) (by omega)
          refine ⟨nums (cs ++ [x]), _, ?_, cs ++ [x], p4, rfl, rfl, hp4, by simp [q2], fun c hc => ?_⟩
          · simp [modes__law_take, ht4, hp4.lf]
            rw [stC2_eq (by rw [List.length_map]; omega)]
            simp
          · rw [List.mem_append, List.mem_singleton] at hc
            rcases hc with hc | hc
            · exact q3 c hc
            · subst hc; omega)
      subst g1 g2
      rw [rngD_len] at g4
      refine ⟨.tup (nums cs), p', ?_, g3, .tup (by omega) g5⟩
      generalize nums cs = N at *
      have gt : gTuple [.lst N] = some (.val (.tup N)) := rfl
      simp [modes__law_take, ht0, ht1, ht3, hp1.lf, hp2.lf, hp3.lf, gp, hr, f1, gt]
    · obtain ⟨k, p3, ht3, hp3, k0, k1⟩ := take_run hp2 (n := 9) (by omega) (by omega)
      have hr : rng1 [.int k] = some ⟨rngD 0 k.toNat, []⟩ := rng1_eq (by unfold BIG; omega)
      have gl : gLenS [.str LT18] = some (.val (.int 65)) := by
        rw [gLenS_eq (by rw [lt_len]; unfold TLN; omega), lt_len]
        rfl
      obtain ⟨acc, e', f1, cs, p', g1, g2, g3, g4, g5⟩ := compL_ind (g := gNm 4) (c := bYes) (s := vBin gIxS (vVar 3) (vCall F__law_take (vCons (vVar 0) (vCons (vCB gLenS (vCons (vVar 3) (vNil))) (vNil))))) (vs := [4]) (items := rngD 0 k.toNat) (e := [.pin p3, .val (.int m0), .val (.int m1), .val (.str LT18), .hole])
        (fun i acc e => ∃ (cs : List Nat) (p' : List D), acc = (cs.map sgn).map D.str ∧ e = [.pin p', .val (.int m0), .val (.int m1), .val (.str LT18), .hole] ∧ Pool p' ∧ cs.length = i ∧ ∀ c ∈ cs, c < 1000)
        ⟨[], p3, rfl, rfl, hp3, rfl, by simp⟩ (fun i d acc e hd hI => by
          obtain ⟨cs, p', rfl, rfl, q1, q2, q3⟩ := hI
          obtain ⟨hi, rfl⟩ := rngD_get hd
          obtain ⟨x, p4, ht4, hp4, x0, x1⟩ := take_run q1 (n := 65) (by omega) (by omega)
          obtain ⟨ch, hch, ix⟩ := lt_ix x0 x1
          refine ⟨((cs ++ [ch]).map sgn).map D.str, _, ?_, cs ++ [ch], p4, rfl, rfl, hp4, by simp [q2], fun c hc => ?_⟩
          · have e1 : ((cs ++ [ch]).map sgn).map D.str = (cs.map sgn).map D.str ++ [.str (sgn ch)] := by simp
            have al : ((cs.map sgn).map D.str).length < LIM := by simp; omega
            rw [e1]
            generalize (cs.map sgn).map D.str = AC at *
            generalize LT18 = SM at *
            simp [modes__law_take, ht4, hp4.lf, ix, gl, stC2_eq al]
          · rw [List.mem_append, List.mem_singleton] at hc
            rcases hc with hc | hc
            · exact q3 c hc
            · subst hc; exact hch)
      subst g1 g2
      rw [rngD_len] at g4
      obtain ⟨t, jn, tc⟩ := join_sg (cs := cs) (by omega) g5
      refine ⟨.str t, p', ?_, g3, .str tc⟩
      generalize (cs.map sgn).map D.str = AC at *
      generalize LT18 = SM at *
      simp [modes__law_take, ht0, ht1, ht3, hp1.lf, hp2.lf, hp3.lf, gp, h2, h3, hr, f1, jn]
end DV
namespace DV
open PySem PySem.Spec PyProof.Rows L2
/-! ### what is raised, and its fields -/
def exnQ (i : Nat) (a b c : D) : Exn := match i with
  | 0 => ⟨"NoNet", ["why"], [a]⟩
  | 1 => ⟨"NoText", ["at"], [a]⟩
  | 2 => ⟨"Stuck", ["store", "work", "at"], [c, b, a]⟩
  | 3 => ⟨"Unlike", ["work"], [a]⟩
  | 4 => ⟨"Stopped", ["ring"], [a]⟩
  | 5 => ⟨"NoStore", ["store"], [a]⟩
  | 6 => ⟨"NoPart", ["many"], [a]⟩
  | 7 => ⟨"TooMany", ["many"], [a]⟩
  | 8 => ⟨"TooLong", ["turns"], [a]⟩
  | 9 => ⟨"NoCoins", ["at"], [a]⟩
  | 10 => ⟨"NoWork", ["work"], [a]⟩
  | 11 => ⟨"NoName", ["name"], [a]⟩
  | 12 => ⟨"NothingDone", [], []⟩
  | 13 => ⟨"NothingUndone", [], []⟩
  | _ => ⟨"NoLine", [], []⟩
@[simp] theorem sRaiseT_eq {c : Str} {s : SE} {e : Ev} : sRaiseT c s e = (s e).bind (kRaiseT c) := Eq.trans rfl rfl
@[simp] theorem kRaiseT_eq {c : Str} {r : R} {e : Ev} : kRaiseT c r e = .exn ⟨c, [], []⟩ e := Eq.trans rfl rfl
@[simp] theorem sRaiseK_eq {c : Str} {ks : List Str} {m : Nat} {ix : List Nat} {t : SL} {e : Ev} : sRaiseK c ks m ix t e = (t e).bind (kRaiseK c ks m ix) := Eq.trans rfl rfl
@[simp] theorem kRaiseK1 {c k1 : Str} {d : D} {e : Ev} : kRaiseK c [k1] 1 [0] [.val d] e = .exn ⟨c, [k1], [d]⟩ e := Eq.trans rfl rfl
@[simp] theorem sHeld_eq {i j k : Nat} {tbl : List (Str × Bool)} {b : SS} {f : XF} {e : Ev} : sHeld i j k tbl b f e = kHeld i j k tbl f (b e) := Eq.trans rfl rfl
@[simp] theorem vFldX_eq {tbl : List Str} {k : Str} {s : SE} {e : Ev} : vFldX tbl k s e = (s e).bind (kFldX tbl k) := Eq.trans rfl rfl
@[simp] theorem kFldX_eq {tbl : List Str} {k : Str} {r : R} {e : Ev} : kFldX tbl k r e = opt (r.read e) (kFldX2 tbl k e) := Eq.trans rfl rfl
@[simp] theorem kFldX2_eq {tbl : List Str} {k : Str} {d : D} {e : Ev} : kFldX2 tbl k e d = opt (fldX tbl k d) fun v => .ok (.val v) e := Eq.trans rfl rfl
section
variable {a b c : D} {i : Nat}
set_option maxHeartbeats 4000000 in
theorem raised_run (h : i < 12) : F__law_raised.run [.val (.int (i : Nat)), .val a, .val b, .val c] = .exn (exnQ i a b c) [.hole, .hole, .hole, .hole] := by
  rw [run__law_raised, bodyRun_eq (by rfl)]
  have : i = 0 ∨ i = 1 ∨ i = 2 ∨ i = 3 ∨ i = 4 ∨ i = 5 ∨ i = 6 ∨ i = 7 ∨ i = 8 ∨ i = 9 ∨ i = 10 ∨ i = 11 := by omega
  rcases this with rfl | rfl | rfl | rfl | rfl | rfl | rfl | rfl | rfl | rfl | rfl | rfl <;> simp [b__law_raised, exnQ]
set_option maxHeartbeats 4000000 in
theorem raised_none (h : 12 ≤ i) : F__law_raised.run [.val (.int (i : Nat)), .val a, .val b, .val c] = .ok (.val .non) [.hole, .hole, .hole, .hole] := by
  rw [run__law_raised, bodyRun_eq (by rfl)]
  have h0 : ∀ k : Nat, k < 12 → gEq (.int (i : Nat)) (.int (k : Nat)) = some (.val (.bl false)) := fun k hk => by
    rw [gEq_int, decide_eq_false (by omega)]
  have e0 := h0 0 (by omega); have e1 := h0 1 (by omega); have e2 := h0 2 (by omega); have e3 := h0 3 (by omega)
  have e4 := h0 4 (by omega); have e5 := h0 5 (by omega); have e6 := h0 6 (by omega); have e7 := h0 7 (by omega)
  have e8 := h0 8 (by omega); have e9 := h0 9 (by omega); have e10 := h0 10 (by omega); have e11 := h0 11 (by omega)
  clear h0
  generalize ((i : Nat) : Int) = I at *
  simp only [Int.cast_ofNat_Int, Int.ofNat_zero] at *
  simp [-gEq_int, b__law_raised, e0, e1, e2, e3, e4, e5, e6, e7, e8, e9, e10, e11]
end
end DV
namespace DV
open PySem PySem.Spec PyProof.Rows L2
@[simp] theorem kRaiseK3 {c k1 k2 k3 : Str} {d1 d2 d3 : D} {e : Ev} : kRaiseK c [k1, k2, k3] 3 [1, 2, 0] [.val d1, .val d2, .val d3] e = .exn ⟨c, [k3, k2, k1], [d1, d3, d2]⟩ e := Eq.trans rfl rfl
section
variable {a b c : D} {i : Nat}
theorem eqs12 (h : 12 ≤ i) : ∀ k : Nat, k < 12 → gEq (.int (i : Nat)) (.int (k : Nat)) = some (.val (.bl false)) := fun k hk => by
  rw [gEq_int, decide_eq_false (by omega)]
set_option maxHeartbeats 4000000 in
theorem named_run (h : i < 12) : F__law_raised_by_names.run [.val (.int (i : Nat)), .val a, .val b, .val c] = .exn (exnQ i a b c) [.hole, .hole, .hole, .hole] := by
  rw [run__law_raised_by_names, bodyRun_eq (by rfl)]
  have : i = 0 ∨ i = 1 ∨ i = 2 ∨ i = 3 ∨ i = 4 ∨ i = 5 ∨ i = 6 ∨ i = 7 ∨ i = 8 ∨ i = 9 ∨ i = 10 ∨ i = 11 := by omega
  rcases this with rfl | rfl | rfl | rfl | rfl | rfl | rfl | rfl | rfl | rfl | rfl | rfl <;> simp [b__law_raised_by_names, exnQ]
set_option maxHeartbeats 4000000 in
theorem named_none (h : 12 ≤ i) : F__law_raised_by_names.run [.val (.int (i : Nat)), .val a, .val b, .val c] = .ok (.val .non) [.hole, .hole, .hole, .hole] := by
  rw [run__law_raised_by_names, bodyRun_eq (by rfl)]
  have h0 := eqs12 h
  have e0 := h0 0 (by omega); have e1 := h0 1 (by omega); have e2 := h0 2 (by omega); have e3 := h0 3 (by omega)
  have e4 := h0 4 (by omega); have e5 := h0 5 (by omega); have e6 := h0 6 (by omega); have e7 := h0 7 (by omega)
  have e8 := h0 8 (by omega); have e9 := h0 9 (by omega); have e10 := h0 10 (by omega); have e11 := h0 11 (by omega)
  clear h0
  generalize ((i : Nat) : Int) = I at *
  simp only [Int.cast_ofNat_Int, Int.ofNat_zero] at *
  simp [-gEq_int, b__law_raised_by_names, e0, e1, e2, e3, e4, e5, e6, e7, e8, e9, e10, e11]
theorem text_run (h : 12 ≤ i) (h2 : i < 15) {m : Str} : F__law_raised_of_text.run [.val (.int (i : Nat)), .val (.str m)] = .exn (exnQ i a b c) [.hole, .hole] := by
  rw [run__law_raised_of_text, bodyRun_eq (by rfl)]
  have : i = 12 ∨ i = 13 ∨ i = 14 := by omega
  rcases this with rfl | rfl | rfl <;> simp [b__law_raised_of_text, exnQ]
abbrev TB18 : List (Str × Bool) := [("NoCoins", true), ("NoLine", true), ("NoName", true), ("NoNet", true), ("NoPart", true), ("NoStore", true), ("NoText", true), ("NoWork", true), ("NothingDone", true), ("NothingUndone", true), ("Stopped", true), ("Stuck", true), ("TooLong", true), ("TooMany", true), ("Unlike", true)]
abbrev SB18 : List Str := ["NoCoins", "NoLine", "NoName", "NoNet", "NoPart", "NoStore", "NoText", "NoWork", "NothingDone", "NothingUndone", "Stopped", "Stuck", "TooLong", "TooMany", "Unlike"]
/-- the name of its class -/
def w18 (i : Nat) : Str := (exnQ i .non .non .non).c
theorem exn_c : (exnQ i a b c).c = w18 i := by
  unfold w18 exnQ
  split <;> rfl
theorem w18_tb : ∀ i : Fin 15, TB18.lookup (w18 i.val) = some true ∧ w18 i.val ∈ SB18 := by decide +kernel
theorem exn_tb (h : i < 15) : TB18.lookup (exnQ i a b c).c = some true ∧ (exnQ i a b c).c ∈ SB18 := by
  rw [exn_c]
  exact w18_tb ⟨i, h⟩
theorem held_eq {x : Exn} (h1 : TB18.lookup x.c = some true) (h2 : x.c ∈ SB18) {e : Ev} (he : isHole e[5]? = true) : kHeld 5 3 4 TB18 (fSort SB18) (.exn x e) = kHeld2 5 3 4 x e (.str x.c) := by
  unfold kHeld
  simp only
  rw [h1]
  simp only
  rw [if_pos he, show fSort SB18 x = some (.str x.c) from if_pos h2]
  rfl
@[simp] theorem kHeld2_eq {i j k : Nat} {x : Exn} {e : Ev} {dv : D} : kHeld2 i j k x e dv = opt (stv j (.val (.exc x.c x.ks x.ds)) e) (kHeld3 i k dv) := Eq.trans rfl rfl
def kHeld4 (i : Nat) (e : Ev) : Out Fl := if isHole e[i]? then .ok .nx e else .bad
@[simp] theorem kHeld3_eq {i k : Nat} {dv : D} {e : Ev} : kHeld3 i k dv e = opt (stv k (.val dv) e) (kHeld4 i) := Eq.trans rfl rfl
theorem kHeld4_eq {i : Nat} {e : Ev} (h : isHole e[i]? = true) : kHeld4 i e = .ok .nx e := if_pos h
theorem caught_eq : b__law_caught = sSeq (sSet 3 (vC .non))
        (sSeq (sSet 4 (vC (.str (Str.ofString ""))))
        (sSeq (sHeld 5 3 4 TB18 (sSeq (sIf (bVal (vVar 2)) (sDrop (vCall F__law_raised_by_names (vCons (vVar 0) (vCons (vBin gIx (vVar 1) (vC (.int 0))) (vCons (vBin gIx (vVar 1) (vC (.int 1))) (vCons (vBin gIx (vVar 1) (vC (.int 2))) (vNil))))))) (sNil))
        (sSeq (sDrop (vCall F__law_raised (vCons (vVar 0) (vCons (vBin gIx (vVar 1) (vC (.int 0))) (vCons (vBin gIx (vVar 1) (vC (.int 1))) (vCons (vBin gIx (vVar 1) (vC (.int 2))) (vNil)))))))
        (sDrop (vCallTx F__law_raised_of_text (vCons (vVar 0) (vCons (vBin gIx (vVar 1) (vC (.int 0))) (vNil))))))) (fSort SB18))
        (sRet (vTup (vCons (vVar 3) (vCons (vVar 4) (vNil))))))) := rfl
theorem isHole_h : isHole (some Sl.hole) = true := rfl
set_option maxHeartbeats 4000000 in
theorem caught_run (h : i < 15) (n : Bool) (ht : strAD a = true) : F__law_caught.run [.val (.int (i : Nat)), .val (.lst [a, b, c]), .val (.bl n)] =
    .ok (.val (.tup [.exc (exnQ i a b c).c (exnQ i a b c).ks (exnQ i a b c).ds, .str (exnQ i a b c).c])) [.hole, .hole, .hole] := by
  rw [run__law_caught, bodyRun_eq (by rfl), caught_eq]
  obtain ⟨h1, h2⟩ := exn_tb (a := a) (b := b) (c := c) h
  have k0 : L2.atI [a, b, c] 0 = some a := rfl
  have k1 : L2.atI [a, b, c] 1 = some b := rfl
  have k2 : L2.atI [a, b, c] 2 = some c := rfl
  have hh := fun e => @held_eq _ h1 h2 e
  by_cases h12 : i < 12
  · have r1 := raised_run (a := a) (b := b) (c := c) h12
    have r2 := named_run (a := a) (b := b) (c := c) h12
    generalize exnQ i a b c = x at *
    generalize TB18 = TB at *
    generalize SB18 = SB at *
    cases n with
    | false => simp [modes__law_raised, r1, k0, k1, k2, hh, isHole_h, kHeld4_eq]
    | true => simp [modes__law_raised_by_names, r2, k0, k1, k2, hh, isHole_h, kHeld4_eq]
  · have r1 := raised_none (a := a) (b := b) (c := c) (i := i) (by omega)
    have r2 := named_none (a := a) (b := b) (c := c) (i := i) (by omega)
    have r3 := fun m => text_run (a := a) (b := b) (c := c) (i := i) (by omega) h (m := m)
    generalize exnQ i a b c = x at *
    have r4 : ∀ e : Ev, kStrA F__law_raised_of_text [.val (.int (i : Nat)), .val a] e = .exn x e := fun e => by
      unfold kStrA
      simp only [R.read]
      rw [if_pos ht]
      refine alike_eq fun m => ?_
      have r3 := r3 m
      simp [modes__law_raised_of_text, r3]
    generalize TB18 = TB at *
    generalize SB18 = SB at *
    cases n with
    | false => simp [modes__law_raised, r1, k0, k1, k2, r4, hh, isHole_h, kHeld4_eq]
    | true => simp [modes__law_raised, modes__law_raised_by_names, r1, r2, k0, k1, k2, r4, hh, isHole_h, kHeld4_eq]
end
end DV
namespace DV
open PySem PySem.Spec PyProof.Rows L2
def fieldsQ (i : Nat) (a b c : D) : List D := if i = 2 then [a, b, c] else if i < 12 then [a] else []
section
variable {a b c : D} {i : Nat}
theorem fldX_ok {tbl : List Str} {c k : Str} {ks : List Str} {ds : List D} {d : D} (h : c ∈ tbl) (h2 : (ks.zip ds).lookup k = some d) : fldX tbl k (.exc c ks ds) = some d := by
  unfold fldX
  simp only
  rw [if_pos h, h2]
theorem in_a (n : Int) : gIn false (.int n) (.tup [.int 0, .int 1, .int 9]) = some (.val (.bl (decide (n ∈ [(0 : Int), 1, 9])))) := gIn_tnums (l := [0, 1, 9]) (neg := false)
theorem in_b (n : Int) : gIn false (.int n) (.tup [.int 3, .int 10]) = some (.val (.bl (decide (n ∈ [(3 : Int), 10])))) := gIn_tnums (l := [3, 10]) (neg := false)
theorem in_c (n : Int) : gIn false (.int n) (.tup [.int 6, .int 7]) = some (.val (.bl (decide (n ∈ [(6 : Int), 7])))) := gIn_tnums (l := [6, 7]) (neg := false)
set_option maxHeartbeats 4000000 in
theorem fields_run (h : i < 15) : F__law_fields.run [.val (.exc (exnQ i a b c).c (exnQ i a b c).ks (exnQ i a b c).ds), .val (.int (i : Nat))] = .ok (.val (.tup (fieldsQ i a b c))) [.hole, .hole] := by
  rw [run__law_fields, bodyRun_eq (by rfl)]
  have f0 : fldX ["NoNet"] "why" (.exc "NoNet" ["why"] [a]) = some a := fldX_ok (by decide +kernel) rfl
  have f1 : fldX ["NoCoins", "NoText", "Stuck"] "at" (.exc "NoText" ["at"] [a]) = some a := fldX_ok (by decide +kernel) rfl
  have f2 : fldX ["NoCoins", "NoText", "Stuck"] "at" (.exc "Stuck" ["store", "work", "at"] [c, b, a]) = some a := fldX_ok (by decide +kernel) rfl
  have f3 : fldX ["NoWork", "Stuck", "Unlike"] "work" (.exc "Stuck" ["store", "work", "at"] [c, b, a]) = some b := fldX_ok (by decide +kernel) rfl
  have f4 : fldX ["NoStore", "Stuck"] "store" (.exc "Stuck" ["store", "work", "at"] [c, b, a]) = some c := fldX_ok (by decide +kernel) rfl
  have f5 : fldX ["NoWork", "Stuck", "Unlike"] "work" (.exc "Unlike" ["work"] [a]) = some a := fldX_ok (by decide +kernel) rfl
  have f6 : fldX ["Stopped"] "ring" (.exc "Stopped" ["ring"] [a]) = some a := fldX_ok (by decide +kernel) rfl
  have f7 : fldX ["NoStore", "Stuck"] "store" (.exc "NoStore" ["store"] [a]) = some a := fldX_ok (by decide +kernel) rfl
  have f8 : fldX ["NoPart", "TooMany"] "many" (.exc "NoPart" ["many"] [a]) = some a := fldX_ok (by decide +kernel) rfl
  have f9 : fldX ["NoPart", "TooMany"] "many" (.exc "TooMany" ["many"] [a]) = some a := fldX_ok (by decide +kernel) rfl
  have f10 : fldX ["TooLong"] "turns" (.exc "TooLong" ["turns"] [a]) = some a := fldX_ok (by decide +kernel) rfl
  have f11 : fldX ["NoCoins", "NoText", "Stuck"] "at" (.exc "NoCoins" ["at"] [a]) = some a := fldX_ok (by decide +kernel) rfl
  have f12 : fldX ["NoWork", "Stuck", "Unlike"] "work" (.exc "NoWork" ["work"] [a]) = some a := fldX_ok (by decide +kernel) rfl
  have f13 : fldX ["NoName"] "name" (.exc "NoName" ["name"] [a]) = some a := fldX_ok (by decide +kernel) rfl
  have : i = 0 ∨ i = 1 ∨ i = 2 ∨ i = 3 ∨ i = 4 ∨ i = 5 ∨ i = 6 ∨ i = 7 ∨ i = 8 ∨ i = 9 ∨ i = 10 ∨ i = 11 ∨ i = 12 ∨ i = 13 ∨ i = 14 := by omega
  rcases this with rfl | rfl | rfl | rfl | rfl | rfl | rfl | rfl | rfl | rfl | rfl | rfl | rfl | rfl | rfl <;> simp [b__law_fields, exnQ, fieldsQ, in_a, in_b, in_c, f0, f1, f2, f3, f4, f5, f6, f7, f8, f9, f10, f11, f12, f13]
/-- how many of the things are fields -/
def sizeQ (i : Nat) : Int := if i = 2 then 3 else if i < 12 then 1 else 0
theorem shp_fields (ha : Thg a) (hb : Thg b) (hc : Thg c) : D.shp 8 (.tup (fieldsQ i a b c)) = true := by
  have h1 := shp_thg ha
  have h2 := shp_thg hb
  have h3 := shp_thg hc
  show List.all (fieldsQ i a b c) (D.shp 7) = true
  unfold fieldsQ
  split
  · simp [h1, h2, h3]
  · split
    · simp [h1]
    · rfl
end
end DV
namespace DV
open PySem PySem.Spec PyProof.Rows L2
def CL18 : List Str := ["NoNet", "NoText", "Stuck", "Unlike", "Stopped", "NoStore", "NoPart", "TooMany", "TooLong", "NoCoins", "NoWork", "NoName", "NothingDone", "NothingUndone", "NoLine"]
theorem cl_ok : ∀ i : Fin 15, CL18[i.val]? = some (w18 i.val) ∧ D.shp 8 (.str (w18 i.val)) = true := by decide +kernel
def WA18 : Str := "NoNet NoText Stuck Unlike Stopped NoStore NoPart TooMany TooLong NoCoins NoWork NoName"
def WB18 : Str := " NothingDone NothingUndone NoLine"
def WC18 : Str := " "
theorem words_ok : WA18 ++ WB18 = Str.join WC18 CL18 ∧ WC18.cps.toList = [32] ∧ (WC18.length == 0) = false ∧ (WA18 ++ WB18).length ≤ 200 ∧ WA18.length + WB18.length ≤ 200 := by decide +kernel
theorem words_no : ∀ w ∈ CL18, 32 ∉ w.cps.toList := by decide +kernel
theorem words_split : gSplit (WA18 ++ WB18) (.str WC18) = some (.new (CL18.map D.str)) := by
  obtain ⟨h1, h2, h3, h4, h5⟩ := words_ok
  rw [gSplit_eq h3 (by unfold TLN; omega), h1]
  have hs := _root_.TL.split_join (y := WC18) (s := 32) (S := []) h2 (by decide +kernel) (by unfold CL18; simp) words_no
  rw [_root_.TL.join_eq] at hs
  rw [hs]
def szE : SE := vBin gMul (vBin gIx (vLst (vCons (vC (.int 1)) (vCons (vC (.int 3)) (vNil)))) (vCB gInt1 (vCons (vBin gEq (vVar 2) (vC (.int 2))) (vNil)))) (vCB gInt1 (vCons (vBin gLt (vVar 2) (vC (.int 12))) (vNil)))
def thgE : SE := vComp (iRange1 (vCons (vC (.int 3)) (vNil))) [10] (gNm 10) (bYes) (vCall F__law_thing (vCons (vVar 4) (vNil)))
noncomputable def bod18 : SS := sSeq (sSet 4 (vCall F__law_pool (vCons (vVar 0) (vCons (vVar 2) (vNil)))))
        (sSeq (sSet 5 (vComp (iRange1 (vCons (vC (.int 2)) (vNil))) [9] (gNm 9) (bYes) thgE))
        (sSeq (sSet 6 (vCall F__law_caught (vCons (vVar 2) (vCons (vBin gIx (vVar 5) (vC (.int 0))) (vCons (vC (.bl false)) (vNil))))))
        (sSeq (sSet 7 (vCall F__law_caught (vCons (vVar 2) (vCons (vBin gIx (vVar 5) (vC (.int 1))) (vCons (vC (.bl true)) (vNil))))))
        (sSeq (sSet 8 szE)
        (sSeq (sIf (bOr (bVal (vBin gNe (vBin gIx (vVar 6) (vC (.int 1))) (vVar 3))) (bVal (vBin gNe (vBin gIx (vVar 7) (vC (.int 1))) (vVar 3)))) (sRet (vC (.bl false))) (sNil))
        (sSeq (sIf (bVal (vBin gNe (vCall F__law_fields (vCons (vBin gIx (vVar 6) (vC (.int 0))) (vCons (vVar 2) (vNil)))) (vCB gTuple (vCons (vSl (vBin gIx (vVar 5) (vC (.int 0))) (oNo) (oSome (vVar 8))) (vNil))))) (sRet (vC (.bl false))) (sNil))
        (sIf (bVal (vBin gNe (vCall F__law_fields (vCons (vBin gIx (vVar 7) (vC (.int 0))) (vCons (vVar 2) (vNil)))) (vCB gTuple (vCons (vSl (vBin gIx (vVar 5) (vC (.int 1))) (oNo) (oSome (vVar 8))) (vNil))))) (sRet (vC (.bl false))) (sNil))))))))
theorem law_eq : b_law = sSeq (sSet 1 (vC (.str WA18)))
        (sSeq (sSet 1 (vBin gAddS (vVar 1) (vC (.str WB18))))
        (sSeq (sFor (iEnum (vCons (vM1 gSplit (vVar 1) (vC (.str WC18))) (vNil))) (gTp [gNm 2, gNm 3]) bod18)
        (sRet (vC (.bl true))))) := rfl
section
variable {a b c : D} {i : Nat} {x0 x1 x3 x4 x5 x6 x7 x8 x9 x10 : Sl}
set_option maxHeartbeats 4000000 in
theorem sz_run (h : i < 15) : szE [x0, x1, .val (.int (i : Nat)), x3, x4, x5, x6, x7, x8, x9, x10] = .ok (.val (.int (sizeQ i))) [x0, x1, .val (.int (i : Nat)), x3, x4, x5, x6, x7, x8, x9, x10] := by
  have k0 : L2.atI [D.int 1, D.int 3] 0 = some (.int 1) := rfl
  have k1 : L2.atI [D.int 1, D.int 3] 1 = some (.int 3) := rfl
  have g1 : ∀ k : Int, gMul (.int 1) (.int k) = some (.val (.int (1 * k))) := fun k => gMul_l (by decide) (by decide)
  have g2 : ∀ k : Int, gMul (.int 3) (.int k) = some (.val (.int (3 * k))) := fun k => gMul_l (by decide) (by decide)
  have : i = 0 ∨ i = 1 ∨ i = 2 ∨ i = 3 ∨ i = 4 ∨ i = 5 ∨ i = 6 ∨ i = 7 ∨ i = 8 ∨ i = 9 ∨ i = 10 ∨ i = 11 ∨ i = 12 ∨ i = 13 ∨ i = 14 := by omega
  rcases this with rfl | rfl | rfl | rfl | rfl | rfl | rfl | rfl | rfl | rfl | rfl | rfl | rfl | rfl | rfl <;> simp [szE, sizeQ, k0, k1, g1, g2]
theorem cut_run : cutD [a, b, c] none (some (sizeQ i)) = fieldsQ i a b c := by
  unfold sizeQ fieldsQ
  split
  · rfl
  · split <;> rfl
set_option maxHeartbeats 2000000 in
theorem things_run {p : List D} (hp : Pool p) : ∃ (a b c : D) (p' : List D), thgE [x0, x1, x3, x4, .own p, x5, x6, x7, x8, x9, .hole] = .ok (.new [a, b, c]) [x0, x1, x3, x4, .own p', x5, x6, x7, x8, x9, .hole] ∧ Pool p' ∧ Thg a ∧ Thg b ∧ Thg c := by
  have lim : LIM = 1000000 := rfl
  have hr : rng1 [.int 3] = some ⟨rngD 0 3, []⟩ := rng1_eq (by unfold BIG; omega)
  obtain ⟨acc, e', f1, p', g1, g2, g3, g4⟩ := compL_ind (g := gNm 10) (c := bYes) (s := vCall F__law_thing (vCons (vVar 4) (vNil))) (vs := [10]) (items := rngD 0 3) (e := [x0, x1, x3, x4, .own p, x5, x6, x7, x8, x9, .hole])
    (fun i acc e => ∃ (p' : List D), e = [x0, x1, x3, x4, .own p', x5, x6, x7, x8, x9, .hole] ∧ Pool p' ∧ acc.length = i ∧ ∀ d ∈ acc, Thg d)
    ⟨p, rfl, hp, rfl, by simp⟩ (fun i d acc e hd hI => by
      obtain ⟨p', rfl, q1, q2, q3⟩ := hI
      obtain ⟨hi, rfl⟩ := rngD_get hd
      obtain ⟨d, p4, ht4, hp4, hd⟩ := thing_run q1
      refine ⟨acc ++ [d], _, ?_, p4, rfl, hp4, by simp [q2], fun c hc => ?_⟩
      · have al : acc.length < LIM := by omega
        simp [modes__law_thing, ht4, hp4.lf, stC2_eq al]
      · rw [List.mem_append, List.mem_singleton] at hc
        rcases hc with hc | hc
        · exact q3 c hc
        · subst hc; exact hd)
  subst g1
  rw [rngD_len] at g3
  match acc, g3, g4, f1 with
  | [a, b, c], _, g4, f1 =>
    exact ⟨a, b, c, p', by simp [thgE, hr, f1], g2, g4 a (by simp), g4 b (by simp), g4 c (by simp)⟩
end
end DV
namespace DV
open PySem PySem.Spec PyProof.Rows L2
section
variable {i : Nat} {x0 x1 x3 x4 x5 x6 x7 x8 x9 x10 : Sl}
/-- three things -/
def Th3 (d : D) : Prop := ∃ a b c, d = .lst [a, b, c] ∧ Thg a ∧ Thg b ∧ Thg c
set_option maxHeartbeats 2000000 in
theorem some_run {p : List D} (hp : Pool p) : ∃ (d1 d2 : D) (p' : List D), vComp (iRange1 (vCons (vC (.int 2)) (vNil))) [9] (gNm 9) (bYes) thgE [x0, x1, x3, x4, .own p, x5, x6, x7, x8, .hole, .hole] = .ok (.new [d1, d2]) [x0, x1, x3, x4, .own p', x5, x6, x7, x8, .hole, .hole] ∧ Pool p' ∧ Th3 d1 ∧ Th3 d2 := by
  have lim : LIM = 1000000 := rfl
  have hr : rng1 [.int 2] = some ⟨rngD 0 2, []⟩ := rng1_eq (by unfold BIG; omega)
  obtain ⟨acc, e', f1, p', g1, g2, g3, g4⟩ := compL_ind (g := gNm 9) (c := bYes) (s := thgE) (vs := [9]) (items := rngD 0 2) (e := [x0, x1, x3, x4, .own p, x5, x6, x7, x8, .hole, .hole])
    (fun i acc e => ∃ (p' : List D), e = [x0, x1, x3, x4, .own p', x5, x6, x7, x8, .hole, .hole] ∧ Pool p' ∧ acc.length = i ∧ ∀ d ∈ acc, Th3 d)
    ⟨p, rfl, hp, rfl, by simp⟩ (fun i d acc e hd hI => by
      obtain ⟨p', rfl, q1, q2, q3⟩ := hI
      obtain ⟨hi, rfl⟩ := rngD_get hd
      obtain ⟨a, b, c, p4, ht4, hp4, h1, h2, h3⟩ := things_run (x0 := x0) (x1 := x1) (x3 := x3) (x4 := x4) (x5 := x5) (x6 := x6) (x7 := x7) (x8 := x8) (x9 := .val (.int (i : Nat))) q1
      refine ⟨acc ++ [.lst [a, b, c]], _, ?_, p4, rfl, hp4, by simp [q2], fun d hc => ?_⟩
      · have al : acc.length < LIM := by omega
        simp [ht4, stC2_eq al]
      · rw [List.mem_append, List.mem_singleton] at hc
        rcases hc with hc | hc
        · exact q3 d hc
        · subst hc; exact ⟨a, b, c, rfl, h1, h2, h3⟩)
  subst g1
  rw [rngD_len] at g3
  match acc, g3, g4, f1 with
  | [a, b], _, g4, f1 =>
    generalize thgE = TE at *
    exact ⟨a, b, p', by simp [hr, f1], g2, g4 a (by simp), g4 b (by simp)⟩
set_option maxHeartbeats 8000000 in
theorem step18 (h : i < 15) {ns : List Int} {s4 s5 s6 s7 s8 : Sl} (w4 : s4.free? = true) (w5 : s5.free? = true) (w6 : s6.free? = true) (w7 : s7.free? = true) (w8 : s8.free? = true) :
    ∃ t4 t5 t6 t7 t8 : Sl, t4.free? = true ∧ t5.free? = true ∧ t6.free? = true ∧ t7.free? = true ∧ t8.free? = true ∧
      bod18 [.val (.scr (nums ns)), x1, .val (.int (i : Nat)), .val (.str (w18 i)), s4, s5, s6, s7, s8, .hole, .hole] = .ok .nx [.val (.scr (nums ns)), x1, .val (.int (i : Nat)), .val (.str (w18 i)), t4, t5, t6, t7, t8, .hole, .hole] := by
  obtain ⟨p, hp0, hp⟩ := pool_run ns (i : Nat) (by omega)
  obtain ⟨d1, d2, p', hs, hp', ⟨a, b, c, rfl, ha, hb, hc⟩, a', b', c', rfl, ha', hb', hc'⟩ := some_run (x0 := .val (.scr (nums ns))) (x1 := x1) (x3 := .val (.int (i : Nat))) (x4 := .val (.str (w18 i))) (x5 := s5) (x6 := s6) (x7 := s7) (x8 := s8) hp
  have c1 := caught_run (a := a) (b := b) (c := c) h false (strAD_thg ha)
  have c2 := caught_run (a := a') (b := b') (c := c') h true (strAD_thg ha')
  have f1 := fields_run (a := a) (b := b) (c := c) h
  have f2 := fields_run (a := a') (b := b') (c := c') h
  rw [exn_c] at c1 c2 f1 f2
  have n0 := gNe_self (cl_ok ⟨i, h⟩).2
  have n0 : gNe (.str (w18 i)) (.str (w18 i)) = some (.val (.bl false)) := n0
  have n1 := gNe_self (shp_fields (i := i) ha hb hc)
  have n2 := gNe_self (shp_fields (i := i) ha' hb' hc')
  have u1 := @cut_run a b c i
  have u2 := @cut_run a' b' c' i
  have gt : ∀ N : List D, gTuple [.lst N] = some (.val (.tup N)) := fun _ => rfl
  have j0 : ∀ a b : D, L2.atI [a, b] 0 = some a := fun _ _ => rfl
  have j1 : ∀ a b : D, L2.atI [a, b] 1 = some b := fun _ _ => rfl
  have hz := fun y4 y5 y6 y7 y8 => sz_run h (x0 := .val (.scr (nums ns))) (x1 := x1) (x3 := .val (.str (w18 i))) (x4 := y4) (x5 := y5) (x6 := y6) (x7 := y7) (x8 := y8) (x9 := .hole) (x10 := .hole)
  refine ⟨.own p', .own [.lst [a, b, c], .lst [a', b', c']], .val (.tup [.exc (w18 i) (exnQ i a b c).ks (exnQ i a b c).ds, .str (w18 i)]), .val (.tup [.exc (w18 i) (exnQ i a' b' c').ks (exnQ i a' b' c').ds, .str (w18 i)]), .val (.int (sizeQ i)), rfl, rfl, rfl, rfl, rfl, ?_⟩
  unfold bod18
  have l0 := hp.lf
  generalize exnQ i a b c = q1 at *
  generalize exnQ i a' b' c' = q2 at *
  generalize fieldsQ i a b c = F1 at *
  generalize fieldsQ i a' b' c' = F2 at *
  generalize sizeQ i = SZ at *
  generalize w18 i = w at *
  generalize nums ns = N at *
  generalize szE = ZE at *
  generalize vComp (iRange1 (vCons (vC (.int 2)) (vNil))) [9] (gNm 9) (bYes) thgE = TE at *
  generalize ((i : Nat) : Int) = I at *
  clear h ha hb hc ha' hb' hc' hp hp'
  simp [w4, w5, w6, w7, w8, modes__law_pool, hp0, hs, modes__law_caught, c1, c2, j0, j1, hz, n0, n1, n2, modes__law_fields, f1, f2, u1, u2, gt]
end
set_option maxHeartbeats 4000000 in
theorem yes_law : Yes F_law := by
  intro ns hns
  simp only [run_law]
  rw [bodyRun_eq (by rfl), law_eq]
  have lim : LIM = 1000000 := rfl
  have ga : gAddS (.str WA18) (.str WB18) = some (.val (.str (WA18 ++ WB18))) := gAddS_eq (by have := words_ok.2.2.2.2; unfold TLN; omega)
  have gs := words_split
  obtain ⟨e', f1, s2, s3, s4, s5, s6, s7, s8, w2, w3, w4, w5, w6, w7, w8, rfl⟩ := forL_ind (g := gTp [gNm 2, gNm 3]) (b := bod18)
    (items := enumD 0 (CL18.map D.str)) (e := [.val (.scr (nums ns)), .val (.str (WA18 ++ WB18)), .hole, .hole, .hole, .hole, .hole, .hole, .hole, .hole, .hole])
    (fun i e => ∃ s2 s3 s4 s5 s6 s7 s8 : Sl, s2.free? = true ∧ s3.free? = true ∧ s4.free? = true ∧ s5.free? = true ∧ s6.free? = true ∧ s7.free? = true ∧ s8.free? = true ∧
      e = [.val (.scr (nums ns)), .val (.str (WA18 ++ WB18)), s2, s3, s4, s5, s6, s7, s8, .hole, .hole])
    ⟨.hole, .hole, .hole, .hole, .hole, .hole, .hole, rfl, rfl, rfl, rfl, rfl, rfl, rfl, rfl⟩ (fun i d e hd hI => by
      obtain ⟨s2, s3, s4, s5, s6, s7, s8, w2, w3, w4, w5, w6, w7, w8, rfl⟩ := hI
      rw [enumD_get, List.getElem?_map] at hd
      have hi : i < 15 := by
        by_cases z : i < 15
        · exact z
        · rw [List.getElem?_eq_none (by show CL18.length ≤ i; exact Nat.le_trans (by decide) (Nat.not_lt.mp z))] at hd
          cases hd
      rw [(cl_ok ⟨i, hi⟩).1] at hd
      obtain rfl := Option.some.inj hd
      obtain ⟨s4', s5', s6', s7', s8', v4, v5, v6, v7, v8, st⟩ := step18 hi (ns := ns) (x1 := .val (.str (WA18 ++ WB18))) w4 w5 w6 w7 w8
      refine ⟨_, ?_, .val (.int (i : Nat)), .val (.str (w18 i)), s4', s5', s6', s7', s8', rfl, rfl, v4, v5, v6, v7, v8, rfl⟩
      rw [Nat.zero_add]
      generalize bod18 = B at *
      generalize nums ns = N at *
      generalize WA18 ++ WB18 = W at *
      generalize w18 i = w at *
      simp [w2, w3, st])
  simp only [nums] at *
  generalize ns.map D.int = dn at *
  generalize CL18.map D.str = CL at *
  generalize bod18 = B at *
  generalize WA18 ++ WB18 = W at *
  generalize WA18 = WA at *
  generalize WB18 = WB at *
  generalize WC18 = WC at *
  simp [ga, gs, enum1, f1]
end DV
open PySem PySem.W PyProof.Rows in
set_option maxRecDepth 100000 in
set_option maxHeartbeats 0 in
theorem PySem.Challenge.cw_ringcoins_k18_refusals_made_holds : PySem.Challenge.rw_ringcoins_k18_refusals_made.Holds := by
  w_on; o_law; k_head; (case hw => w_witness2)
  k_fill
  refine L2.walk_of (l := PySem.Challenge.rw_ringcoins_k18_refusals_made) (n := 63) (k := 5) (x := "_law_script") (CX := fun w => L2N.CX (PySem.W.OpenLaw.prog PySem.Challenge.rw_ringcoins_k18_refusals_made) w) (sp := fun w => DV.spL _) rfl (by decide) rfl ⟨rfl, by decide, by decide⟩ (fun w h Y => PySem.W.kIn_of Y) ?F (fun _ _ a ns hl _ hS => ⟨a, ns, rfl, hl, hS, fun _ => rfl⟩) (fun _ _ _ _ _ h => DV.cx_no h)
  case F =>
    intro w mg fa h KX G hmg0
    have hmg : mg "law" = some (.ref fa) := hmg0
    clear hmg0
    have m_ValueError : mg "ValueError" = none := PySem.W.mg_none_of KX G (by k_is)
    have m_abs : mg "abs" = none := PySem.W.mg_none_of KX G (by k_is)
    have m_enumerate : mg "enumerate" = none := PySem.W.mg_none_of KX G (by k_is)
    have m_int : mg "int" = none := PySem.W.mg_none_of KX G (by k_is)
    have m_isinstance : mg "isinstance" = none := PySem.W.mg_none_of KX G (by k_is)
    have m_len : mg "len" = none := PySem.W.mg_none_of KX G (by k_is)
    have m_range : mg "range" = none := PySem.W.mg_none_of KX G (by k_is)
    have m_str : mg "str" = none := PySem.W.mg_none_of KX G (by k_is)
    have m_tuple : mg "tuple" = none := PySem.W.mg_none_of KX G (by k_is)
    have x_catch_RingError_NoCoins_NoLine_NoName_NoNet_NoPart_NoStore_NoText_NoWork_NothingDone_NothingUndone_Stopped_Stuck_TooLong_TooMany_Unlike : DV.Catch _ mg "RingError" [("NoCoins", true), ("NoLine", true), ("NoName", true), ("NoNet", true), ("NoPart", true), ("NoStore", true), ("NoText", true), ("NoWork", true), ("NothingDone", true), ("NothingUndone", true), ("Stopped", true), ("Stuck", true), ("TooLong", true), ("TooMany", true), ("Unlike", true)] := DV.catch_cons KX G (by k_is) (by k_is) (by k_is) (by k_is) (by k_is) (by k_is) (DV.catch_cons KX G (by k_is) (by k_is) (by k_is) (by k_is) (by k_is) (by k_is) (DV.catch_cons KX G (by k_is) (by k_is) (by k_is) (by k_is) (by k_is) (by k_is) (DV.catch_cons KX G (by k_is) (by k_is) (by k_is) (by k_is) (by k_is) (by k_is) (DV.catch_cons KX G (by k_is) (by k_is) (by k_is) (by k_is) (by k_is) (by k_is) (DV.catch_cons KX G (by k_is) (by k_is) (by k_is) (by k_is) (by k_is) (by k_is) (DV.catch_cons KX G (by k_is) (by k_is) (by k_is) (by k_is) (by k_is) (by k_is) (DV.catch_cons KX G (by k_is) (by k_is) (by k_is) (by k_is) (by k_is) (by k_is) (DV.catch_cons KX G (by k_is) (by k_is) (by k_is) (by k_is) (by k_is) (by k_is) (DV.catch_cons KX G (by k_is) (by k_is) (by k_is) (by k_is) (by k_is) (by k_is) (DV.catch_cons KX G (by k_is) (by k_is) (by k_is) (by k_is) (by k_is) (by k_is) (DV.catch_cons KX G (by k_is) (by k_is) (by k_is) (by k_is) (by k_is) (by k_is) (DV.catch_cons KX G (by k_is) (by k_is) (by k_is) (by k_is) (by k_is) (by k_is) (DV.catch_cons KX G (by k_is) (by k_is) (by k_is) (by k_is) (by k_is) (by k_is) (DV.catch_cons KX G (by k_is) (by k_is) (by k_is) (by k_is) (by k_is) (by k_is) (DV.catch_nil (PySem.W.mg_of KX G (by k_is)))))))))))))))))
    have x_err0_NoLine : DV.ErrOk0 _ mg "NoLine" := DV.has_err0 KX G (by k_is) (by k_exc) (by k_is) (by k_is) (by k_is)
    have x_err0_NothingDone : DV.ErrOk0 _ mg "NothingDone" := DV.has_err0 KX G (by k_is) (by k_exc) (by k_is) (by k_is) (by k_is)
    have x_err0_NothingUndone : DV.ErrOk0 _ mg "NothingUndone" := DV.has_err0 KX G (by k_is) (by k_exc) (by k_is) (by k_is) (by k_is)
    have x_fld_NoCoins_at : DV.ErrF _ mg "NoCoins" "at" := DV.errF_of KX G (by k_is) (by k_is) (by k_is) (by k_is) (by k_is) (by k_is)
    have x_fld_NoName_name : DV.ErrF _ mg "NoName" "name" := DV.errF_of KX G (by k_is) (by k_is) (by k_is) (by k_is) (by k_is) (by k_is)
    have x_fld_NoNet_why : DV.ErrF _ mg "NoNet" "why" := DV.errF_of KX G (by k_is) (by k_is) (by k_is) (by k_is) (by k_is) (by k_is)
    have x_fld_NoPart_many : DV.ErrF _ mg "NoPart" "many" := DV.errF_of KX G (by k_is) (by k_is) (by k_is) (by k_is) (by k_is) (by k_is)
    have x_fld_NoStore_store : DV.ErrF _ mg "NoStore" "store" := DV.errF_of KX G (by k_is) (by k_is) (by k_is) (by k_is) (by k_is) (by k_is)
    have x_fld_NoText_at : DV.ErrF _ mg "NoText" "at" := DV.errF_of KX G (by k_is) (by k_is) (by k_is) (by k_is) (by k_is) (by k_is)
    have x_fld_NoWork_work : DV.ErrF _ mg "NoWork" "work" := DV.errF_of KX G (by k_is) (by k_is) (by k_is) (by k_is) (by k_is) (by k_is)
    have x_fld_Stopped_ring : DV.ErrF _ mg "Stopped" "ring" := DV.errF_of KX G (by k_is) (by k_is) (by k_is) (by k_is) (by k_is) (by k_is)
    have x_fld_Stuck_at : DV.ErrF _ mg "Stuck" "at" := DV.errF_of KX G (by k_is) (by k_is) (by k_is) (by k_is) (by k_is) (by k_is)
    have x_fld_Stuck_store : DV.ErrF _ mg "Stuck" "store" := DV.errF_of KX G (by k_is) (by k_is) (by k_is) (by k_is) (by k_is) (by k_is)
    have x_fld_Stuck_work : DV.ErrF _ mg "Stuck" "work" := DV.errF_of KX G (by k_is) (by k_is) (by k_is) (by k_is) (by k_is) (by k_is)
    have x_fld_TooLong_turns : DV.ErrF _ mg "TooLong" "turns" := DV.errF_of KX G (by k_is) (by k_is) (by k_is) (by k_is) (by k_is) (by k_is)
    have x_fld_TooMany_many : DV.ErrF _ mg "TooMany" "many" := DV.errF_of KX G (by k_is) (by k_is) (by k_is) (by k_is) (by k_is) (by k_is)
    have x_fld_Unlike_work : DV.ErrF _ mg "Unlike" "work" := DV.errF_of KX G (by k_is) (by k_is) (by k_is) (by k_is) (by k_is) (by k_is)
    have H_RE : DV.RErr _ mg := DV.has_rerr KX G (by k_is) (by k_is) (by k_is) (by k_is) (by k_is)
    have S_NoCoins := DV.self_of (c := "NoCoins") KX G (by k_is) (by k_is) (by k_is) (by k_is) (by k_is) (by k_is) (by k_is) (by k_is) (by k_is)
    have S_NoLine := DV.self_of (c := "NoLine") KX G (by k_is) (by k_is) (by k_is) (by k_is) (by k_is) (by k_is) (by k_is) (by k_is) (by k_is)
    have S_NoName := DV.self_of (c := "NoName") KX G (by k_is) (by k_is) (by k_is) (by k_is) (by k_is) (by k_is) (by k_is) (by k_is) (by k_is)
    have S_NoNet := DV.self_of (c := "NoNet") KX G (by k_is) (by k_is) (by k_is) (by k_is) (by k_is) (by k_is) (by k_is) (by k_is) (by k_is)
    have S_NoPart := DV.self_of (c := "NoPart") KX G (by k_is) (by k_is) (by k_is) (by k_is) (by k_is) (by k_is) (by k_is) (by k_is) (by k_is)
    have S_NoStore := DV.self_of (c := "NoStore") KX G (by k_is) (by k_is) (by k_is) (by k_is) (by k_is) (by k_is) (by k_is) (by k_is) (by k_is)
    have S_NoText := DV.self_of (c := "NoText") KX G (by k_is) (by k_is) (by k_is) (by k_is) (by k_is) (by k_is) (by k_is) (by k_is) (by k_is)
    have S_NoWork := DV.self_of (c := "NoWork") KX G (by k_is) (by k_is) (by k_is) (by k_is) (by k_is) (by k_is) (by k_is) (by k_is) (by k_is)
    have S_NothingDone := DV.self_of (c := "NothingDone") KX G (by k_is) (by k_is) (by k_is) (by k_is) (by k_is) (by k_is) (by k_is) (by k_is) (by k_is)
    have S_NothingUndone := DV.self_of (c := "NothingUndone") KX G (by k_is) (by k_is) (by k_is) (by k_is) (by k_is) (by k_is) (by k_is) (by k_is) (by k_is)
    have S_Stopped := DV.self_of (c := "Stopped") KX G (by k_is) (by k_is) (by k_is) (by k_is) (by k_is) (by k_is) (by k_is) (by k_is) (by k_is)
    have S_Stuck := DV.self_of (c := "Stuck") KX G (by k_is) (by k_is) (by k_is) (by k_is) (by k_is) (by k_is) (by k_is) (by k_is) (by k_is)
    have S_TooLong := DV.self_of (c := "TooLong") KX G (by k_is) (by k_is) (by k_is) (by k_is) (by k_is) (by k_is) (by k_is) (by k_is) (by k_is)
    have S_TooMany := DV.self_of (c := "TooMany") KX G (by k_is) (by k_is) (by k_is) (by k_is) (by k_is) (by k_is) (by k_is) (by k_is) (by k_is)
    have S_Unlike := DV.self_of (c := "Unlike") KX G (by k_is) (by k_is) (by k_is) (by k_is) (by k_is) (by k_is) (by k_is) (by k_is) (by k_is)
    have D_RingError := DV.dcl_of (n := "RingError") KX G (by k_is) (by k_is) (by k_is)
    have D_NoNet := DV.dcl_of (n := "NoNet") KX G (by k_is) (by k_is) (by k_is)
    have D_NoText := DV.dcl_of (n := "NoText") KX G (by k_is) (by k_is) (by k_is)
    have D_Stuck := DV.dcl_of (n := "Stuck") KX G (by k_is) (by k_is) (by k_is)
    have D_Unlike := DV.dcl_of (n := "Unlike") KX G (by k_is) (by k_is) (by k_is)
    have D_Stopped := DV.dcl_of (n := "Stopped") KX G (by k_is) (by k_is) (by k_is)
    have D_NoStore := DV.dcl_of (n := "NoStore") KX G (by k_is) (by k_is) (by k_is)
    have D_NoPart := DV.dcl_of (n := "NoPart") KX G (by k_is) (by k_is) (by k_is)
    have D_TooMany := DV.dcl_of (n := "TooMany") KX G (by k_is) (by k_is) (by k_is)
    have D_TooLong := DV.dcl_of (n := "TooLong") KX G (by k_is) (by k_is) (by k_is)
    have D_NoCoins := DV.dcl_of (n := "NoCoins") KX G (by k_is) (by k_is) (by k_is)
    have D_NoWork := DV.dcl_of (n := "NoWork") KX G (by k_is) (by k_is) (by k_is)
    have D_NothingDone := DV.dcl_of (n := "NothingDone") KX G (by k_is) (by k_is) (by k_is)
    have D_NothingUndone := DV.dcl_of (n := "NothingUndone") KX G (by k_is) (by k_is) (by k_is)
    have D_NoLine := DV.dcl_of (n := "NoLine") KX G (by k_is) (by k_is) (by k_is)
    have D_NoName := DV.dcl_of (n := "NoName") KX G (by k_is) (by k_is) (by k_is)
    have Z_NoNet := DV.kind_of D_NoNet (DV.is_cons (b := false) S_NoCoins D_NoNet (by k_is) (by decide) (DV.is_cons (b := false) S_NoLine D_NoNet (by k_is) (by decide) (DV.is_cons (b := false) S_NoName D_NoNet (by k_is) (by decide) (DV.is_cons (b := true) S_NoNet D_NoNet (by k_is) (by decide) (DV.is_cons (b := false) S_NoPart D_NoNet (by k_is) (by decide) (DV.is_cons (b := false) S_NoStore D_NoNet (by k_is) (by decide) (DV.is_cons (b := false) S_NoText D_NoNet (by k_is) (by decide) (DV.is_cons (b := false) S_NoWork D_NoNet (by k_is) (by decide) (DV.is_cons (b := false) S_NothingDone D_NoNet (by k_is) (by decide) (DV.is_cons (b := false) S_NothingUndone D_NoNet (by k_is) (by decide) (DV.is_cons (b := false) S_Stopped D_NoNet (by k_is) (by decide) (DV.is_cons (b := false) S_Stuck D_NoNet (by k_is) (by decide) (DV.is_cons (b := false) S_TooLong D_NoNet (by k_is) (by decide) (DV.is_cons (b := false) S_TooMany D_NoNet (by k_is) (by decide) (DV.is_cons (b := false) S_Unlike D_NoNet (by k_is) (by decide) DV.is_nil)))))))))))))))
    have Z_NoText := DV.kind_of D_NoText (DV.is_cons (b := false) S_NoCoins D_NoText (by k_is) (by decide) (DV.is_cons (b := false) S_NoLine D_NoText (by k_is) (by decide) (DV.is_cons (b := false) S_NoName D_NoText (by k_is) (by decide) (DV.is_cons (b := false) S_NoNet D_NoText (by k_is) (by decide) (DV.is_cons (b := false) S_NoPart D_NoText (by k_is) (by decide) (DV.is_cons (b := false) S_NoStore D_NoText (by k_is) (by decide) (DV.is_cons (b := true) S_NoText D_NoText (by k_is) (by decide) (DV.is_cons (b := false) S_NoWork D_NoText (by k_is) (by decide) (DV.is_cons (b := false) S_NothingDone D_NoText (by k_is) (by decide) (DV.is_cons (b := false) S_NothingUndone D_NoText (by k_is) (by decide) (DV.is_cons (b := false) S_Stopped D_NoText (by k_is) (by decide) (DV.is_cons (b := false) S_Stuck D_NoText (by k_is) (by decide) (DV.is_cons (b := false) S_TooLong D_NoText (by k_is) (by decide) (DV.is_cons (b := false) S_TooMany D_NoText (by k_is) (by decide) (DV.is_cons (b := false) S_Unlike D_NoText (by k_is) (by decide) DV.is_nil)))))))))))))))
    have Z_Stuck := DV.kind_of D_Stuck (DV.is_cons (b := false) S_NoCoins D_Stuck (by k_is) (by decide) (DV.is_cons (b := false) S_NoLine D_Stuck (by k_is) (by decide) (DV.is_cons (b := false) S_NoName D_Stuck (by k_is) (by decide) (DV.is_cons (b := false) S_NoNet D_Stuck (by k_is) (by decide) (DV.is_cons (b := false) S_NoPart D_Stuck (by k_is) (by decide) (DV.is_cons (b := false) S_NoStore D_Stuck (by k_is) (by decide) (DV.is_cons (b := false) S_NoText D_Stuck (by k_is) (by decide) (DV.is_cons (b := false) S_NoWork D_Stuck (by k_is) (by decide) (DV.is_cons (b := false) S_NothingDone D_Stuck (by k_is) (by decide) (DV.is_cons (b := false) S_NothingUndone D_Stuck (by k_is) (by decide) (DV.is_cons (b := false) S_Stopped D_Stuck (by k_is) (by decide) (DV.is_cons (b := true) S_Stuck D_Stuck (by k_is) (by decide) (DV.is_cons (b := false) S_TooLong D_Stuck (by k_is) (by decide) (DV.is_cons (b := false) S_TooMany D_Stuck (by k_is) (by decide) (DV.is_cons (b := false) S_Unlike D_Stuck (by k_is) (by decide) DV.is_nil)))))))))))))))
    have Z_Unlike := DV.kind_of D_Unlike (DV.is_cons (b := false) S_NoCoins D_Unlike (by k_is) (by decide) (DV.is_cons (b := false) S_NoLine D_Unlike (by k_is) (by decide) (DV.is_cons (b := false) S_NoName D_Unlike (by k_is) (by decide) (DV.is_cons (b := false) S_NoNet D_Unlike (by k_is) (by decide) (DV.is_cons (b := false) S_NoPart D_Unlike (by k_is) (by decide) (DV.is_cons (b := false) S_NoStore D_Unlike (by k_is) (by decide) (DV.is_cons (b := false) S_NoText D_Unlike (by k_is) (by decide) (DV.is_cons (b := false) S_NoWork D_Unlike (by k_is) (by decide) (DV.is_cons (b := false) S_NothingDone D_Unlike (by k_is) (by decide) (DV.is_cons (b := false) S_NothingUndone D_Unlike (by k_is) (by decide) (DV.is_cons (b := false) S_Stopped D_Unlike (by k_is) (by decide) (DV.is_cons (b := false) S_Stuck D_Unlike (by k_is) (by decide) (DV.is_cons (b := false) S_TooLong D_Unlike (by k_is) (by decide) (DV.is_cons (b := false) S_TooMany D_Unlike (by k_is) (by decide) (DV.is_cons (b := true) S_Unlike D_Unlike (by k_is) (by decide) DV.is_nil)))))))))))))))
    have Z_Stopped := DV.kind_of D_Stopped (DV.is_cons (b := false) S_NoCoins D_Stopped (by k_is) (by decide) (DV.is_cons (b := false) S_NoLine D_Stopped (by k_is) (by decide) (DV.is_cons (b := false) S_NoName D_Stopped (by k_is) (by decide) (DV.is_cons (b := false) S_NoNet D_Stopped (by k_is) (by decide) (DV.is_cons (b := false) S_NoPart D_Stopped (by k_is) (by decide) (DV.is_cons (b := false) S_NoStore D_Stopped (by k_is) (by decide) (DV.is_cons (b := false) S_NoText D_Stopped (by k_is) (by decide) (DV.is_cons (b := false) S_NoWork D_Stopped (by k_is) (by decide) (DV.is_cons (b := false) S_NothingDone D_Stopped (by k_is) (by decide) (DV.is_cons (b := false) S_NothingUndone D_Stopped (by k_is) (by decide) (DV.is_cons (b := true) S_Stopped D_Stopped (by k_is) (by decide) (DV.is_cons (b := false) S_Stuck D_Stopped (by k_is) (by decide) (DV.is_cons (b := false) S_TooLong D_Stopped (by k_is) (by decide) (DV.is_cons (b := false) S_TooMany D_Stopped (by k_is) (by decide) (DV.is_cons (b := false) S_Unlike D_Stopped (by k_is) (by decide) DV.is_nil)))))))))))))))
    have Z_NoStore := DV.kind_of D_NoStore (DV.is_cons (b := false) S_NoCoins D_NoStore (by k_is) (by decide) (DV.is_cons (b := false) S_NoLine D_NoStore (by k_is) (by decide) (DV.is_cons (b := false) S_NoName D_NoStore (by k_is) (by decide) (DV.is_cons (b := false) S_NoNet D_NoStore (by k_is) (by decide) (DV.is_cons (b := false) S_NoPart D_NoStore (by k_is) (by decide) (DV.is_cons (b := true) S_NoStore D_NoStore (by k_is) (by decide) (DV.is_cons (b := false) S_NoText D_NoStore (by k_is) (by decide) (DV.is_cons (b := false) S_NoWork D_NoStore (by k_is) (by decide) (DV.is_cons (b := false) S_NothingDone D_NoStore (by k_is) (by decide) (DV.is_cons (b := false) S_NothingUndone D_NoStore (by k_is) (by decide) (DV.is_cons (b := false) S_Stopped D_NoStore (by k_is) (by decide) (DV.is_cons (b := false) S_Stuck D_NoStore (by k_is) (by decide) (DV.is_cons (b := false) S_TooLong D_NoStore (by k_is) (by decide) (DV.is_cons (b := false) S_TooMany D_NoStore (by k_is) (by decide) (DV.is_cons (b := false) S_Unlike D_NoStore (by k_is) (by decide) DV.is_nil)))))))))))))))
    have Z_NoPart := DV.kind_of D_NoPart (DV.is_cons (b := false) S_NoCoins D_NoPart (by k_is) (by decide) (DV.is_cons (b := false) S_NoLine D_NoPart (by k_is) (by decide) (DV.is_cons (b := false) S_NoName D_NoPart (by k_is) (by decide) (DV.is_cons (b := false) S_NoNet D_NoPart (by k_is) (by decide) (DV.is_cons (b := true) S_NoPart D_NoPart (by k_is) (by decide) (DV.is_cons (b := false) S_NoStore D_NoPart (by k_is) (by decide) (DV.is_cons (b := false) S_NoText D_NoPart (by k_is) (by decide) (DV.is_cons (b := false) S_NoWork D_NoPart (by k_is) (by decide) (DV.is_cons (b := false) S_NothingDone D_NoPart (by k_is) (by decide) (DV.is_cons (b := false) S_NothingUndone D_NoPart (by k_is) (by decide) (DV.is_cons (b := false) S_Stopped D_NoPart (by k_is) (by decide) (DV.is_cons (b := false) S_Stuck D_NoPart (by k_is) (by decide) (DV.is_cons (b := false) S_TooLong D_NoPart (by k_is) (by decide) (DV.is_cons (b := false) S_TooMany D_NoPart (by k_is) (by decide) (DV.is_cons (b := false) S_Unlike D_NoPart (by k_is) (by decide) DV.is_nil)))))))))))))))
    have Z_TooMany := DV.kind_of D_TooMany (DV.is_cons (b := false) S_NoCoins D_TooMany (by k_is) (by decide) (DV.is_cons (b := false) S_NoLine D_TooMany (by k_is) (by decide) (DV.is_cons (b := false) S_NoName D_TooMany (by k_is) (by decide) (DV.is_cons (b := false) S_NoNet D_TooMany (by k_is) (by decide) (DV.is_cons (b := false) S_NoPart D_TooMany (by k_is) (by decide) (DV.is_cons (b := false) S_NoStore D_TooMany (by k_is) (by decide) (DV.is_cons (b := false) S_NoText D_TooMany (by k_is) (by decide) (DV.is_cons (b := false) S_NoWork D_TooMany (by k_is) (by decide) (DV.is_cons (b := false) S_NothingDone D_TooMany (by k_is) (by decide) (DV.is_cons (b := false) S_NothingUndone D_TooMany (by k_is) (by decide) (DV.is_cons (b := false) S_Stopped D_TooMany (by k_is) (by decide) (DV.is_cons (b := false) S_Stuck D_TooMany (by k_is) (by decide) (DV.is_cons (b := false) S_TooLong D_TooMany (by k_is) (by decide) (DV.is_cons (b := true) S_TooMany D_TooMany (by k_is) (by decide) (DV.is_cons (b := false) S_Unlike D_TooMany (by k_is) (by decide) DV.is_nil)))))))))))))))
    have Z_TooLong := DV.kind_of D_TooLong (DV.is_cons (b := false) S_NoCoins D_TooLong (by k_is) (by decide) (DV.is_cons (b := false) S_NoLine D_TooLong (by k_is) (by decide) (DV.is_cons (b := false) S_NoName D_TooLong (by k_is) (by decide) (DV.is_cons (b := false) S_NoNet D_TooLong (by k_is) (by decide) (DV.is_cons (b := false) S_NoPart D_TooLong (by k_is) (by decide) (DV.is_cons (b := false) S_NoStore D_TooLong (by k_is) (by decide) (DV.is_cons (b := false) S_NoText D_TooLong (by k_is) (by decide) (DV.is_cons (b := false) S_NoWork D_TooLong (by k_is) (by decide) (DV.is_cons (b := false) S_NothingDone D_TooLong (by k_is) (by decide) (DV.is_cons (b := false) S_NothingUndone D_TooLong (by k_is) (by decide) (DV.is_cons (b := false) S_Stopped D_TooLong (by k_is) (by decide) (DV.is_cons (b := false) S_Stuck D_TooLong (by k_is) (by decide) (DV.is_cons (b := true) S_TooLong D_TooLong (by k_is) (by decide) (DV.is_cons (b := false) S_TooMany D_TooLong (by k_is) (by decide) (DV.is_cons (b := false) S_Unlike D_TooLong (by k_is) (by decide) DV.is_nil)))))))))))))))
    have Z_NoCoins := DV.kind_of D_NoCoins (DV.is_cons (b := true) S_NoCoins D_NoCoins (by k_is) (by decide) (DV.is_cons (b := false) S_NoLine D_NoCoins (by k_is) (by decide) (DV.is_cons (b := false) S_NoName D_NoCoins (by k_is) (by decide) (DV.is_cons (b := false) S_NoNet D_NoCoins (by k_is) (by decide) (DV.is_cons (b := false) S_NoPart D_NoCoins (by k_is) (by decide) (DV.is_cons (b := false) S_NoStore D_NoCoins (by k_is) (by decide) (DV.is_cons (b := false) S_NoText D_NoCoins (by k_is) (by decide) (DV.is_cons (b := false) S_NoWork D_NoCoins (by k_is) (by decide) (DV.is_cons (b := false) S_NothingDone D_NoCoins (by k_is) (by decide) (DV.is_cons (b := false) S_NothingUndone D_NoCoins (by k_is) (by decide) (DV.is_cons (b := false) S_Stopped D_NoCoins (by k_is) (by decide) (DV.is_cons (b := false) S_Stuck D_NoCoins (by k_is) (by decide) (DV.is_cons (b := false) S_TooLong D_NoCoins (by k_is) (by decide) (DV.is_cons (b := false) S_TooMany D_NoCoins (by k_is) (by decide) (DV.is_cons (b := false) S_Unlike D_NoCoins (by k_is) (by decide) DV.is_nil)))))))))))))))
    have Z_NoWork := DV.kind_of D_NoWork (DV.is_cons (b := false) S_NoCoins D_NoWork (by k_is) (by decide) (DV.is_cons (b := false) S_NoLine D_NoWork (by k_is) (by decide) (DV.is_cons (b := false) S_NoName D_NoWork (by k_is) (by decide) (DV.is_cons (b := false) S_NoNet D_NoWork (by k_is) (by decide) (DV.is_cons (b := false) S_NoPart D_NoWork (by k_is) (by decide) (DV.is_cons (b := false) S_NoStore D_NoWork (by k_is) (by decide) (DV.is_cons (b := false) S_NoText D_NoWork (by k_is) (by decide) (DV.is_cons (b := true) S_NoWork D_NoWork (by k_is) (by decide) (DV.is_cons (b := false) S_NothingDone D_NoWork (by k_is) (by decide) (DV.is_cons (b := false) S_NothingUndone D_NoWork (by k_is) (by decide) (DV.is_cons (b := false) S_Stopped D_NoWork (by k_is) (by decide) (DV.is_cons (b := false) S_Stuck D_NoWork (by k_is) (by decide) (DV.is_cons (b := false) S_TooLong D_NoWork (by k_is) (by decide) (DV.is_cons (b := false) S_TooMany D_NoWork (by k_is) (by decide) (DV.is_cons (b := false) S_Unlike D_NoWork (by k_is) (by decide) DV.is_nil)))))))))))))))
    have Z_NothingDone := DV.kind_of D_NothingDone (DV.is_cons (b := false) S_NoCoins D_NothingDone (by k_is) (by decide) (DV.is_cons (b := false) S_NoLine D_NothingDone (by k_is) (by decide) (DV.is_cons (b := false) S_NoName D_NothingDone (by k_is) (by decide) (DV.is_cons (b := false) S_NoNet D_NothingDone (by k_is) (by decide) (DV.is_cons (b := false) S_NoPart D_NothingDone (by k_is) (by decide) (DV.is_cons (b := false) S_NoStore D_NothingDone (by k_is) (by decide) (DV.is_cons (b := false) S_NoText D_NothingDone (by k_is) (by decide) (DV.is_cons (b := false) S_NoWork D_NothingDone (by k_is) (by decide) (DV.is_cons (b := true) S_NothingDone D_NothingDone (by k_is) (by decide) (DV.is_cons (b := false) S_NothingUndone D_NothingDone (by k_is) (by decide) (DV.is_cons (b := false) S_Stopped D_NothingDone (by k_is) (by decide) (DV.is_cons (b := false) S_Stuck D_NothingDone (by k_is) (by decide) (DV.is_cons (b := false) S_TooLong D_NothingDone (by k_is) (by decide) (DV.is_cons (b := false) S_TooMany D_NothingDone (by k_is) (by decide) (DV.is_cons (b := false) S_Unlike D_NothingDone (by k_is) (by decide) DV.is_nil)))))))))))))))
    have Z_NothingUndone := DV.kind_of D_NothingUndone (DV.is_cons (b := false) S_NoCoins D_NothingUndone (by k_is) (by decide) (DV.is_cons (b := false) S_NoLine D_NothingUndone (by k_is) (by decide) (DV.is_cons (b := false) S_NoName D_NothingUndone (by k_is) (by decide) (DV.is_cons (b := false) S_NoNet D_NothingUndone (by k_is) (by decide) (DV.is_cons (b := false) S_NoPart D_NothingUndone (by k_is) (by decide) (DV.is_cons (b := false) S_NoStore D_NothingUndone (by k_is) (by decide) (DV.is_cons (b := false) S_NoText D_NothingUndone (by k_is) (by decide) (DV.is_cons (b := false) S_NoWork D_NothingUndone (by k_is) (by decide) (DV.is_cons (b := false) S_NothingDone D_NothingUndone (by k_is) (by decide) (DV.is_cons (b := true) S_NothingUndone D_NothingUndone (by k_is) (by decide) (DV.is_cons (b := false) S_Stopped D_NothingUndone (by k_is) (by decide) (DV.is_cons (b := false) S_Stuck D_NothingUndone (by k_is) (by decide) (DV.is_cons (b := false) S_TooLong D_NothingUndone (by k_is) (by decide) (DV.is_cons (b := false) S_TooMany D_NothingUndone (by k_is) (by decide) (DV.is_cons (b := false) S_Unlike D_NothingUndone (by k_is) (by decide) DV.is_nil)))))))))))))))
    have Z_NoLine := DV.kind_of D_NoLine (DV.is_cons (b := false) S_NoCoins D_NoLine (by k_is) (by decide) (DV.is_cons (b := true) S_NoLine D_NoLine (by k_is) (by decide) (DV.is_cons (b := false) S_NoName D_NoLine (by k_is) (by decide) (DV.is_cons (b := false) S_NoNet D_NoLine (by k_is) (by decide) (DV.is_cons (b := false) S_NoPart D_NoLine (by k_is) (by decide) (DV.is_cons (b := false) S_NoStore D_NoLine (by k_is) (by decide) (DV.is_cons (b := false) S_NoText D_NoLine (by k_is) (by decide) (DV.is_cons (b := false) S_NoWork D_NoLine (by k_is) (by decide) (DV.is_cons (b := false) S_NothingDone D_NoLine (by k_is) (by decide) (DV.is_cons (b := false) S_NothingUndone D_NoLine (by k_is) (by decide) (DV.is_cons (b := false) S_Stopped D_NoLine (by k_is) (by decide) (DV.is_cons (b := false) S_Stuck D_NoLine (by k_is) (by decide) (DV.is_cons (b := false) S_TooLong D_NoLine (by k_is) (by decide) (DV.is_cons (b := false) S_TooMany D_NoLine (by k_is) (by decide) (DV.is_cons (b := false) S_Unlike D_NoLine (by k_is) (by decide) DV.is_nil)))))))))))))))
    have Z_NoName := DV.kind_of D_NoName (DV.is_cons (b := false) S_NoCoins D_NoName (by k_is) (by decide) (DV.is_cons (b := false) S_NoLine D_NoName (by k_is) (by decide) (DV.is_cons (b := true) S_NoName D_NoName (by k_is) (by decide) (DV.is_cons (b := false) S_NoNet D_NoName (by k_is) (by decide) (DV.is_cons (b := false) S_NoPart D_NoName (by k_is) (by decide) (DV.is_cons (b := false) S_NoStore D_NoName (by k_is) (by decide) (DV.is_cons (b := false) S_NoText D_NoName (by k_is) (by decide) (DV.is_cons (b := false) S_NoWork D_NoName (by k_is) (by decide) (DV.is_cons (b := false) S_NothingDone D_NoName (by k_is) (by decide) (DV.is_cons (b := false) S_NothingUndone D_NoName (by k_is) (by decide) (DV.is_cons (b := false) S_Stopped D_NoName (by k_is) (by decide) (DV.is_cons (b := false) S_Stuck D_NoName (by k_is) (by decide) (DV.is_cons (b := false) S_TooLong D_NoName (by k_is) (by decide) (DV.is_cons (b := false) S_TooMany D_NoName (by k_is) (by decide) (DV.is_cons (b := false) S_Unlike D_NoName (by k_is) (by decide) DV.is_nil)))))))))))))))
    have H_K : DV.HasKinds _ mg ["NoCoins", "NoLine", "NoName", "NoNet", "NoPart", "NoStore", "NoText", "NoWork", "NothingDone", "NothingUndone", "Stopped", "Stuck", "TooLong", "TooMany", "Unlike"] := ⟨DV.kind_of D_RingError (DV.is_cons (b := true) S_NoCoins D_RingError (by k_is) (by decide) (DV.is_cons (b := true) S_NoLine D_RingError (by k_is) (by decide) (DV.is_cons (b := true) S_NoName D_RingError (by k_is) (by decide) (DV.is_cons (b := true) S_NoNet D_RingError (by k_is) (by decide) (DV.is_cons (b := true) S_NoPart D_RingError (by k_is) (by decide) (DV.is_cons (b := true) S_NoStore D_RingError (by k_is) (by decide) (DV.is_cons (b := true) S_NoText D_RingError (by k_is) (by decide) (DV.is_cons (b := true) S_NoWork D_RingError (by k_is) (by decide) (DV.is_cons (b := true) S_NothingDone D_RingError (by k_is) (by decide) (DV.is_cons (b := true) S_NothingUndone D_RingError (by k_is) (by decide) (DV.is_cons (b := true) S_Stopped D_RingError (by k_is) (by decide) (DV.is_cons (b := true) S_Stuck D_RingError (by k_is) (by decide) (DV.is_cons (b := true) S_TooLong D_RingError (by k_is) (by decide) (DV.is_cons (b := true) S_TooMany D_RingError (by k_is) (by decide) (DV.is_cons (b := true) S_Unlike D_RingError (by k_is) (by decide) DV.is_nil))))))))))))))), (DV.is_val S_NoCoins (by k_is) (DV.is_val S_NoLine (by k_is) (DV.is_val S_NoName (by k_is) (DV.is_val S_NoNet (by k_is) (DV.is_val S_NoPart (by k_is) (DV.is_val S_NoStore (by k_is) (DV.is_val S_NoText (by k_is) (DV.is_val S_NoWork (by k_is) (DV.is_val S_NothingDone (by k_is) (DV.is_val S_NothingUndone (by k_is) (DV.is_val S_Stopped (by k_is) (DV.is_val S_Stuck (by k_is) (DV.is_val S_TooLong (by k_is) (DV.is_val S_TooMany (by k_is) (DV.is_val S_Unlike (by k_is) DV.is_nil))))))))))))))), (DV.kinds_cons Z_NoNet (by decide) (DV.kinds_cons Z_NoText (by decide) (DV.kinds_cons Z_Stuck (by decide) (DV.kinds_cons Z_Unlike (by decide) (DV.kinds_cons Z_Stopped (by decide) (DV.kinds_cons Z_NoStore (by decide) (DV.kinds_cons Z_NoPart (by decide) (DV.kinds_cons Z_TooMany (by decide) (DV.kinds_cons Z_TooLong (by decide) (DV.kinds_cons Z_NoCoins (by decide) (DV.kinds_cons Z_NoWork (by decide) (DV.kinds_cons Z_NothingDone (by decide) (DV.kinds_cons Z_NothingUndone (by decide) (DV.kinds_cons Z_NoLine (by decide) (DV.kinds_cons Z_NoName (by decide) DV.kinds_nil)))))))))))))))⟩
    have H_err_NoNet := DV.has_err (c := "NoNet") (ks := ["why"]) (qual := "NoNet.__init__") (st := DV.s_NoNet_init) KX G (by k_is) (by k_is) rfl (by k_is) (by k_is) (by k_is) (by k_is) (by k_is) (by k_is) (DV.no_cons (by k_is) DV.no_nil) (by k_is) (by k_is) (by k_is)
    have H_err_NoText := DV.has_err (c := "NoText") (ks := ["at"]) (qual := "NoText.__init__") (st := DV.s_NoText_init) KX G (by k_is) (by k_is) rfl (by k_is) (by k_is) (by k_is) (by k_is) (by k_is) (by k_is) (DV.no_cons (by k_is) DV.no_nil) (by k_is) (by k_is) (by k_is)
    have H_err_Stuck := DV.has_err (c := "Stuck") (ks := ["at", "work", "store"]) (qual := "Stuck.__init__") (st := DV.s_Stuck_init) KX G (by k_is) (by k_is) rfl (by k_is) (by k_is) (by k_is) (by k_is) (by k_is) (by k_is) (DV.no_cons (by k_is) (DV.no_cons (by k_is) (DV.no_cons (by k_is) DV.no_nil))) (by k_is) (by k_is) (by k_is)
    have H_err_Unlike := DV.has_err (c := "Unlike") (ks := ["work"]) (qual := "Unlike.__init__") (st := DV.s_Unlike_init) KX G (by k_is) (by k_is) rfl (by k_is) (by k_is) (by k_is) (by k_is) (by k_is) (by k_is) (DV.no_cons (by k_is) DV.no_nil) (by k_is) (by k_is) (by k_is)
    have H_err_Stopped := DV.has_err (c := "Stopped") (ks := ["ring"]) (qual := "Stopped.__init__") (st := DV.s_Stopped_init) KX G (by k_is) (by k_is) rfl (by k_is) (by k_is) (by k_is) (by k_is) (by k_is) (by k_is) (DV.no_cons (by k_is) DV.no_nil) (by k_is) (by k_is) (by k_is)
    have H_err_NoStore := DV.has_err (c := "NoStore") (ks := ["store"]) (qual := "NoStore.__init__") (st := DV.s_NoStore_init) KX G (by k_is) (by k_is) rfl (by k_is) (by k_is) (by k_is) (by k_is) (by k_is) (by k_is) (DV.no_cons (by k_is) DV.no_nil) (by k_is) (by k_is) (by k_is)
    have H_err_NoPart := DV.has_err (c := "NoPart") (ks := ["many"]) (qual := "NoPart.__init__") (st := DV.s_NoPart_init) KX G (by k_is) (by k_is) rfl (by k_is) (by k_is) (by k_is) (by k_is) (by k_is) (by k_is) (DV.no_cons (by k_is) DV.no_nil) (by k_is) (by k_is) (by k_is)
    have H_err_TooMany := DV.has_err (c := "TooMany") (ks := ["many"]) (qual := "TooMany.__init__") (st := DV.s_TooMany_init) KX G (by k_is) (by k_is) rfl (by k_is) (by k_is) (by k_is) (by k_is) (by k_is) (by k_is) (DV.no_cons (by k_is) DV.no_nil) (by k_is) (by k_is) (by k_is)
    have H_err_TooLong := DV.has_err (c := "TooLong") (ks := ["turns"]) (qual := "TooLong.__init__") (st := DV.s_TooLong_init) KX G (by k_is) (by k_is) rfl (by k_is) (by k_is) (by k_is) (by k_is) (by k_is) (by k_is) (DV.no_cons (by k_is) DV.no_nil) (by k_is) (by k_is) (by k_is)
    have H_err_NoCoins := DV.has_err (c := "NoCoins") (ks := ["at"]) (qual := "NoCoins.__init__") (st := DV.s_NoCoins_init) KX G (by k_is) (by k_is) rfl (by k_is) (by k_is) (by k_is) (by k_is) (by k_is) (by k_is) (DV.no_cons (by k_is) DV.no_nil) (by k_is) (by k_is) (by k_is)
    have H_err_NoWork := DV.has_err (c := "NoWork") (ks := ["work"]) (qual := "NoWork.__init__") (st := DV.s_NoWork_init) KX G (by k_is) (by k_is) rfl (by k_is) (by k_is) (by k_is) (by k_is) (by k_is) (by k_is) (DV.no_cons (by k_is) DV.no_nil) (by k_is) (by k_is) (by k_is)
    have H_err_NoName := DV.has_err (c := "NoName") (ks := ["name"]) (qual := "NoName.__init__") (st := DV.s_NoName_init) KX G (by k_is) (by k_is) rfl (by k_is) (by k_is) (by k_is) (by k_is) (by k_is) (by k_is) (DV.no_cons (by k_is) DV.no_nil) (by k_is) (by k_is) (by k_is)
    have H__law_pool := DV.has_fn (x := "_law_pool") (qual := "_law_pool") (st := DV.s__law_pool) KX G (by k_is) (by k_is) (by k_is) (by k_is)
    have H__law_raised := DV.has_fn (x := "_law_raised") (qual := "_law_raised") (st := DV.s__law_raised) KX G (by k_is) (by k_is) (by k_is) (by k_is)
    have H__law_raised_of_text := DV.has_fn (x := "_law_raised_of_text") (qual := "_law_raised_of_text") (st := DV.s__law_raised_of_text) KX G (by k_is) (by k_is) (by k_is) (by k_is)
    have H__law_raised_by_names := DV.has_fn (x := "_law_raised_by_names") (qual := "_law_raised_by_names") (st := DV.s__law_raised_by_names) KX G (by k_is) (by k_is) (by k_is) (by k_is)
    have H__law_sorts := DV.has_fn (x := "_law_sorts") (qual := "_law_sorts") (st := DV.s__law_sorts) KX G (by k_is) (by k_is) (by k_is) (by k_is)
    have H__law_caught := DV.has_fn (x := "_law_caught") (qual := "_law_caught") (st := DV.s__law_caught) KX G (by k_is) (by k_is) (by k_is) (by k_is)
    have H__law_fields := DV.has_fn (x := "_law_fields") (qual := "_law_fields") (st := DV.s__law_fields) KX G (by k_is) (by k_is) (by k_is) (by k_is)
    have H__law_take := DV.has_fn (x := "_law_take") (qual := "_law_take") (st := DV.s__law_take) KX G (by k_is) (by k_is) (by k_is) (by k_is)
    have H__law_thing := DV.has_fn (x := "_law_thing") (qual := "_law_thing") (st := DV.s__law_thing) KX G (by k_is) (by k_is) (by k_is) (by k_is)
    have H_law := DV.has_fn (x := "law") (qual := "law") (st := DV.s_law) KX G (by k_is) (by k_is) (by k_is) (by k_is)
    exact DV.all_ok m_ValueError m_abs m_enumerate m_int m_isinstance m_len m_range m_str m_tuple x_catch_RingError_NoCoins_NoLine_NoName_NoNet_NoPart_NoStore_NoText_NoWork_NothingDone_NothingUndone_Stopped_Stuck_TooLong_TooMany_Unlike x_err0_NoLine x_err0_NothingDone x_err0_NothingUndone x_fld_NoCoins_at x_fld_NoName_name x_fld_NoNet_why x_fld_NoPart_many x_fld_NoStore_store x_fld_NoText_at x_fld_NoWork_work x_fld_Stopped_ring x_fld_Stuck_at x_fld_Stuck_store x_fld_Stuck_work x_fld_TooLong_turns x_fld_TooMany_many x_fld_Unlike_work H_RE H_K H_err_NoNet H_err_NoText H_err_Stuck H_err_Unlike H_err_Stopped H_err_NoStore H_err_NoPart H_err_TooMany H_err_TooLong H_err_NoCoins H_err_NoWork H_err_NoName H__law_pool H__law_raised H__law_raised_of_text H__law_raised_by_names H__law_sorts H__law_caught H__law_fields H__law_take H__law_thing H_law hmg DV.yes_law

